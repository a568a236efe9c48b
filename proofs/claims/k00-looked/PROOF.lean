import PyProof.Rows.All
import Wide.All
import OpenK.AllK
import Wide.FinOn
import HandS.ForMost
import HandS.ExcInit
import HandS.ExcField
import HandS.WordsExc
import HandS.TryMany
import HandS.ExcOwn
import HandS.ClsMeth
import PyProof.ReprReads
import HandS.TupAny
import HandS.TupMul
import HandS.IsInst
import HandS.Zip
import HandS.Wide
import HandS.Flow
import KE.KTupSum
import HandS.WordsDict
import PyProof.MaxThree
import HandS.DictComp
import HandS.Style
import HandS.SetKeys
import PyProof.Rows.SetFrom
import KE.GoesMore
import HandS.Deep
import PyProof.ReprRoads
import PyProof.ReprLen
import PyProof.FitsInt
import KE.DataMinMax
import HandS.Text
import HandS.RaiseMore
import PySem.Challenge.RW_evenrates_k00_whole_graphs_looked_at
set_option Elab.async false
set_option linter.all false
set_option maxRecDepth 100000
/-! D: a layer of abstract values over the hand layer: tuples and finished lists are plain values, changed lists and dicts stand at addresses. -/
namespace D
open PySem PySem.Spec L2

/-! ### values -/
inductive AV where
  | non | bl (b : Bool) | int (i : Int) | str (x : Str) | tup (xs : List AV) | fl (xs : List AV) | kl (xs : List AV) | ref (a : Addr) | ty (n : String)
  /-- an exception that is wished for: its class, its field, what it holds -/
  | exc (n f : Str) (v : AV)
  /-- the exception that was caught: its object, its dict, its field, what it holds -/
  | cgt (a d : Addr) (f : Str) (v : AV)

inductive AO where
  | lst (xs : List AV) | dct (kvs : List (Key × AV))
abbrev AHp := Addr → Option AO
def updA (H : AHp) (a : Addr) (o : AO) : AHp := fun b => if b = a then some o else H b
theorem updA_same {H : AHp} {a : Addr} {o : AO} : updA H a o a = some o := by unfold updA; rw [if_pos rfl]
theorem updA_ne {H : AHp} {a b : Addr} {o : AO} (h : b ≠ a) : updA H a o b = H b := by unfold updA; rw [if_neg h]
theorem updA_upd {H : AHp} {a : Addr} {o u : AO} : updA (updA H a o) a u = updA H a u := by
  funext b; unfold updA; by_cases h : b = a <;> simp [h]

def KwT (K : PySem.W.Frag) (a : Addr) (xs : List V) : Prop := ∃ (o : Obj) (its : Array Value) (n : Nat), K.lookup a = some o ∧ o.cls = .type "tuple" ∧ o.data = .seq its n ∧ its.size ≤ sizeLine ∧ Vals xs its.toList
def KwL (K : PySem.W.Frag) (a : Addr) (xs : List V) : Prop := ∃ (o : Obj) (its : Array Value) (n : Nat), K.lookup a = some o ∧ o.cls = .type "list" ∧ o.dict = none ∧ o.data = .seq its n ∧ its.size ≤ sizeLine ∧ Vals xs its.toList
def FzT (K : PySem.W.Frag) (H : Hp) (AH : AHp) (a : Addr) (xs : List V) : Prop := (Rd H a (.tup xs) ∧ AH a = none) ∨ KwT K a xs
def FzL (K : PySem.W.Frag) (H : Hp) (AH : AHp) (a : Addr) (xs : List V) : Prop := (Rd H a (.lst xs) ∧ AH a = none) ∨ KwL K a xs
theorem FzT.sq {K : PySem.W.Frag} {H : Hp} {AH : AHp} {a : Addr} {xs : List V} (h : FzT K H AH a xs) : SqT K H a xs := h.elim (fun q => .inl q.1) .inr
theorem FzL.sq {K : PySem.W.Frag} {H : Hp} {AH : AHp} {a : Addr} {xs : List V} (h : FzL K H AH a xs) : SqL K H a xs := h.elim (fun q => .inl q.1) .inr

mutual
inductive RepV (K : PySem.W.Frag) (H : Hp) (AH : AHp) : AV → V → Prop
  | non : RepV K H AH .non .non
  | bl (b : Bool) : RepV K H AH (.bl b) (.bl b)
  | int (i : Int) : RepV K H AH (.int i) (.int i)
  | str (x : Str) : RepV K H AH (.str x) (.str x)
  | ty (n : String) : RepV K H AH (.ty n) (.ty n)
  | ref (a : Addr) : RepV K H AH (.ref a) (.ref a)
  | tup {a : Addr} {vs : List V} {avs : List AV} : FzT K H AH a vs → RepVs K H AH avs vs → RepV K H AH (.tup avs) (.ref a)
  | fl {a : Addr} {vs : List V} {avs : List AV} : (H a = some (.lst vs) ∧ AH a = none) → RepVs K H AH avs vs → RepV K H AH (.fl avs) (.ref a)
  | kl {a : Addr} {vs : List V} {avs : List AV} : FzL K H AH a vs → RepVs K H AH avs vs → RepV K H AH (.kl avs) (.ref a)
  | cgt {a d : Addr} {f : Str} {fs : List (Str × V)} {x : AV} {v : V} : (H d = some (.xd fs) ∧ AH d = none) → fs.lookup f = some v → RepV K H AH x v → RepV K H AH (.cgt a d f x) (.ref a)
inductive RepVs (K : PySem.W.Frag) (H : Hp) (AH : AHp) : List AV → List V → Prop
  | nil : RepVs K H AH [] []
  | cons {a : AV} {v : V} {as : List AV} {vs : List V} : RepV K H AH a v → RepVs K H AH as vs → RepVs K H AH (a :: as) (v :: vs)
end

def RepKV (K : PySem.W.Frag) (H : Hp) (AH : AHp) : List (Key × AV) → List (Key × V) → Prop := Paired fun p q => p.1 = q.1 ∧ RepV K H AH p.2 q.2
def RepO (K : PySem.W.Frag) (H : Hp) (AH : AHp) : AO → HO → Prop
  | .lst as, u => ∃ vs, u = .lst vs ∧ RepVs K H AH as vs
  | .dct as, u => ∃ vs, u = .dK vs ∧ RepKV K H AH as vs
/-- the abstract heap fits -/
def RH (K : PySem.W.Frag) (AH : AHp) (H : Hp) : Prop := ∀ a o, AH a = some o → ∃ u, H a = some u ∧ RepO K H AH o u
/-- what was tracked and not abstract stays so -/
def Step (AH : AHp) (H : Hp) (AH' : AHp) (H' : Hp) : Prop := ∀ a o, H a = some o → AH a = none → H' a = some o ∧ AH' a = none
theorem Step.refl {AH : AHp} {H : Hp} : Step AH H AH H := fun _ _ h n => ⟨h, n⟩
theorem Step.trans {AH AH1 AH2 : AHp} {H H1 H2 : Hp} (a : Step AH H AH1 H1) (b : Step AH1 H1 AH2 H2) : Step AH H AH2 H2 := fun c o h n => b c o (a c o h n).1 (a c o h n).2

theorem FzT.step {K : PySem.W.Frag} {H H' : Hp} {AH AH' : AHp} {a : Addr} {xs : List V} (h : FzT K H AH a xs) (s : Step AH H AH' H') : FzT K H' AH' a xs := by
  rcases h with ⟨h | ⟨o, h⟩, n⟩ | h
  · exact .inl ⟨.inl (s _ _ h n).1, (s _ _ h n).2⟩
  · exact .inl ⟨.inr ⟨o, (s _ _ h n).1⟩, (s _ _ h n).2⟩
  · exact .inr h
theorem FzL.step {K : PySem.W.Frag} {H H' : Hp} {AH AH' : AHp} {a : Addr} {xs : List V} (h : FzL K H AH a xs) (s : Step AH H AH' H') : FzL K H' AH' a xs := by
  rcases h with ⟨h | ⟨o, h⟩, n⟩ | h
  · exact .inl ⟨.inl (s _ _ h n).1, (s _ _ h n).2⟩
  · exact .inl ⟨.inr ⟨o, (s _ _ h n).1⟩, (s _ _ h n).2⟩
  · exact .inr h
mutual
theorem RepV.step {K : PySem.W.Frag} {H H' : Hp} {AH AH' : AHp} {a : AV} {v : V} (s : Step AH H AH' H') : RepV K H AH a v → RepV K H' AH' a v
  | .non => .non | .bl b => .bl b | .int i => .int i | .str x => .str x | .ty n => .ty n | .ref a => .ref a
  | .tup f r => .tup (f.step s) (RepVs.step s r)
  | .fl f r => .fl (s _ _ f.1 f.2) (RepVs.step s r)
  | .kl f r => .kl (f.step s) (RepVs.step s r)
  | .cgt f l r => .cgt (s _ _ f.1 f.2) l (RepV.step s r)
theorem RepVs.step {K : PySem.W.Frag} {H H' : Hp} {AH AH' : AHp} {as : List AV} {vs : List V} (s : Step AH H AH' H') : RepVs K H AH as vs → RepVs K H' AH' as vs
  | .nil => .nil
  | .cons h t => .cons (RepV.step s h) (RepVs.step s t)
end
theorem RepVs.length {K : PySem.W.Frag} {H : Hp} {AH : AHp} : ∀ {as : List AV} {vs : List V}, RepVs K H AH as vs → as.length = vs.length
  | _, _, .nil => rfl
  | _, _, .cons _ t => congrArg (· + 1) (RepVs.length t)
theorem RepVs.get {K : PySem.W.Frag} {H : Hp} {AH : AHp} : ∀ {as : List AV} {vs : List V} {i : Nat} {a : AV}, RepVs K H AH as vs → as[i]? = some a → ∃ v, vs[i]? = some v ∧ RepV K H AH a v
  | _, _, _, _, .nil, e => by simp at e
  | _, _, 0, _, .cons r _, e => by simp at e; subst e; exact ⟨_, rfl, r⟩
  | _, _, i + 1, a, .cons _ t, e => by
    obtain ⟨u, h1, h2⟩ := RepVs.get (i := i) (a := a) t (by simpa using e)
    exact ⟨u, by simpa using h1, h2⟩
theorem RepVs.getV {K : PySem.W.Frag} {H : Hp} {AH : AHp} {as : List AV} {vs : List V} {i : Nat} {v : V} (h : RepVs K H AH as vs) (e : vs[i]? = some v) : ∃ a, as[i]? = some a ∧ RepV K H AH a v := by
  have hl : i < as.length := by
    rw [h.length]
    exact (List.getElem?_eq_some_iff.mp e).1
  obtain ⟨u, h1, h2⟩ := h.get (List.getElem?_eq_getElem hl)
  rw [e] at h1
  cases h1
  exact ⟨_, List.getElem?_eq_getElem hl, h2⟩
theorem RepVs.append {K : PySem.W.Frag} {H : Hp} {AH : AHp} : ∀ {as bs : List AV} {vs us : List V}, RepVs K H AH as vs → RepVs K H AH bs us → RepVs K H AH (as ++ bs) (vs ++ us)
  | _, _, _, _, .nil, s => s
  | _, _, _, _, .cons r t, s => .cons r (RepVs.append t s)
theorem RepVs.set {K : PySem.W.Frag} {H : Hp} {AH : AHp} {a : AV} {v : V} (r : RepV K H AH a v) : ∀ {as : List AV} {vs : List V} (i : Nat), RepVs K H AH as vs → RepVs K H AH (as.set i a) (vs.set i v)
  | _, _, _, .nil => .nil
  | _, _, 0, .cons _ t => .cons r t
  | _, _, i + 1, .cons q t => .cons q (RepVs.set r i t)
theorem RepVs.take {K : PySem.W.Frag} {H : Hp} {AH : AHp} : ∀ {as : List AV} {vs : List V} (n : Nat), RepVs K H AH as vs → RepVs K H AH (as.take n) (vs.take n)
  | _, _, 0, _ => .nil
  | _, _, _ + 1, .nil => .nil
  | _, _, n + 1, .cons r t => .cons r (RepVs.take n t)
theorem RepVs.drop {K : PySem.W.Frag} {H : Hp} {AH : AHp} : ∀ {as : List AV} {vs : List V} (n : Nat), RepVs K H AH as vs → RepVs K H AH (as.drop n) (vs.drop n)
  | _, _, 0, r => r
  | _, _, _ + 1, .nil => .nil
  | _, _, n + 1, .cons _ t => RepVs.drop n t
theorem RepVs.eraseIdx {K : PySem.W.Frag} {H : Hp} {AH : AHp} : ∀ {as : List AV} {vs : List V} (n : Nat), RepVs K H AH as vs → RepVs K H AH (as.eraseIdx n) (vs.eraseIdx n)
  | _, _, _, .nil => .nil
  | _, _, 0, .cons _ t => t
  | _, _, n + 1, .cons q t => .cons q (RepVs.eraseIdx n t)
theorem RepVs.flat {K : PySem.W.Frag} {H : Hp} {AH : AHp} {as : List AV} {vs : List V} (h : RepVs K H AH as vs) : ∀ k : Nat, RepVs K H AH (List.replicate k as).flatten (List.replicate k vs).flatten
  | 0 => .nil
  | k + 1 => by
    rw [List.replicate_succ, List.replicate_succ, List.flatten_cons, List.flatten_cons]
    exact h.append (RepVs.flat h k)
theorem RepVs.dropLast {K : PySem.W.Frag} {H : Hp} {AH : AHp} {as : List AV} {vs : List V} (h : RepVs K H AH as vs) : RepVs K H AH as.dropLast vs.dropLast := by
  rw [List.dropLast_eq_take, List.dropLast_eq_take, h.length]
  exact h.take _
theorem RepVs.reverse {K : PySem.W.Frag} {H : Hp} {AH : AHp} : ∀ {as : List AV} {vs : List V}, RepVs K H AH as vs → RepVs K H AH as.reverse vs.reverse
  | _, _, .nil => .nil
  | _, _, .cons q t => by
    rw [List.reverse_cons, List.reverse_cons]
    exact (RepVs.reverse t).append (.cons q .nil)
theorem RepVs.nil_iff {K : PySem.W.Frag} {H : Hp} {AH : AHp} {as : List AV} {vs : List V} (h : RepVs K H AH as vs) : vs = [] ↔ as = [] := by
  cases h <;> simp

theorem RepO.step {K : PySem.W.Frag} {H H' : Hp} {AH AH' : AHp} {o : AO} {u : HO} (s : Step AH H AH' H') (h : RepO K H AH o u) : RepO K H' AH' o u := by
  cases o with
  | lst as => obtain ⟨vs, e, r⟩ := h; exact ⟨vs, e, r.step s⟩
  | dct as => obtain ⟨vs, e, r⟩ := h; exact ⟨vs, e, Paired.mapP r fun _ _ q => ⟨q.1, q.2.step s⟩⟩

/-! ### the heap's moves -/
/-- a new finished object -/
theorem Step.fz {K : PySem.W.Frag} {AH : AHp} {H : Hp} {p : Addr} {u : HO} (hp : H p = none) : Step AH H AH (upd H p u) := fun a o h n => by
  have ne : a ≠ p := ne_of_none h hp
  exact ⟨by rw [upd_ne ne]; exact h, n⟩
theorem RH.noneA {K : PySem.W.Frag} {AH : AHp} {H : Hp} {p : Addr} (r : RH K AH H) (hp : H p = none) : AH p = none := by
  cases e : AH p with
  | none => rfl
  | some o => obtain ⟨u, h, _⟩ := r p o e; rw [hp] at h; cases h
theorem RH.fz {K : PySem.W.Frag} {AH : AHp} {H : Hp} {p : Addr} {u : HO} (r : RH K AH H) (hp : H p = none) : RH K AH (upd H p u) := fun a o e => by
  obtain ⟨v, h1, h2⟩ := r a o e
  have ne : a ≠ p := ne_of_none h1 hp
  exact ⟨v, by rw [upd_ne ne]; exact h1, h2.step (Step.fz (K := K) hp)⟩
/-- a new object that may change -/
theorem Step.new {AH : AHp} {H : Hp} {p : Addr} {o : AO} {u : HO} (hp : H p = none) : Step AH H (updA AH p o) (upd H p u) := fun a q h n => by
  have ne : a ≠ p := ne_of_none h hp
  exact ⟨by rw [upd_ne ne]; exact h, by rw [updA_ne ne]; exact n⟩
theorem RH.new {K : PySem.W.Frag} {AH : AHp} {H : Hp} {p : Addr} {o : AO} {u : HO} (r : RH K AH H) (hp : H p = none) (q : RepO K H AH o u) : RH K (updA AH p o) (upd H p u) := fun a o' e => by
  have st : Step AH H (updA AH p o) (upd H p u) := Step.new hp
  by_cases h : a = p
  · subst h
    rw [updA_same] at e
    cases e
    exact ⟨u, upd_same, q.step st⟩
  · rw [updA_ne h] at e
    obtain ⟨v, h1, h2⟩ := r a o' e
    exact ⟨v, by rw [upd_ne h]; exact h1, h2.step st⟩
/-- an object that may change is changed -/
theorem Step.put {AH : AHp} {H : Hp} {p : Addr} {o o' : AO} {u : HO} (hp : AH p = some o') : Step AH H (updA AH p o) (upd H p u) := fun a q h n => by
  have ne : a ≠ p := fun e => by subst e; rw [hp] at n; cases n
  exact ⟨by rw [upd_ne ne]; exact h, by rw [updA_ne ne]; exact n⟩
theorem RH.put {K : PySem.W.Frag} {AH : AHp} {H : Hp} {p : Addr} {o o' : AO} {u : HO} (r : RH K AH H) (hp : AH p = some o') (q : RepO K H AH o u) : RH K (updA AH p o) (upd H p u) := fun a o2 e => by
  have st : Step AH H (updA AH p o) (upd H p u) := Step.put hp
  by_cases h : a = p
  · subst h
    rw [updA_same] at e
    cases e
    exact ⟨u, upd_same, q.step st⟩
  · rw [updA_ne h] at e
    obtain ⟨v, h1, h2⟩ := r a o2 e
    exact ⟨v, by rw [upd_ne h]; exact h1, h2.step st⟩
/-- objects forgotten -/
def SubA (AH AH' : AHp) : Prop := ∀ a o, AH a = some o → AH' a = some o
theorem SubA.refl (AH : AHp) : SubA AH AH := fun _ _ h => h
theorem SubA.trans {A B C : AHp} (h : SubA A B) (g : SubA B C) : SubA A C := fun a o e => g a o (h a o e)
theorem SubA.noneA {AH AH' : AHp} (s : SubA AH AH') {a : Addr} (h : AH' a = none) : AH a = none := by
  cases e : AH a with
  | none => rfl
  | some o => rw [s a o e] at h; cases h
theorem SubA.step {AH AH' : AHp} {H : Hp} (s : SubA AH AH') : Step AH' H AH H := fun a o h n => ⟨h, s.noneA n⟩
theorem SubA.new {AH : AHp} {p : Addr} {o : AO} (h : AH p = none) : SubA AH (updA AH p o) := fun a u e => by
  have ne : a ≠ p := fun q => by subst q; rw [h] at e; cases e
  rw [updA_ne ne]; exact e
theorem RH.sub {K : PySem.W.Frag} {AH AH' : AHp} {H : Hp} (r : RH K AH' H) (s : SubA AH AH') : RH K AH H := fun a o e => by
  obtain ⟨u, h1, h2⟩ := r a o (s a o e)
  exact ⟨u, h1, h2.step s.step⟩

/-! ### environments -/
abbrev AEnv := List (Option AV)
def RelE (K : PySem.W.Frag) (H : Hp) (AH : AHp) : Option AV → Option V → Prop
  | none, _ => True
  | some a, some v => RepV K H AH a v
  | some _, none => False
abbrev RepE (K : PySem.W.Frag) (H : Hp) (AH : AHp) : AEnv → St → Prop := Paired (RelE K H AH)
theorem RelE.step {K : PySem.W.Frag} {H H' : Hp} {AH AH' : AHp} (s : Step AH H AH' H') : ∀ {a : Option AV} {v : Option V}, RelE K H AH a v → RelE K H' AH' a v
  | none, _, _ => trivial
  | some _, some _, h => RepV.step s h
  | some _, none, h => h.elim
theorem RepE.step {K : PySem.W.Frag} {H H' : Hp} {AH AH' : AHp} {e : AEnv} {σ : St} (s : Step AH H AH' H') (h : RepE K H AH e σ) : RepE K H' AH' e σ := Paired.mapP h fun _ _ q => q.step s
theorem RepE.get {K : PySem.W.Frag} {H : Hp} {AH : AHp} : ∀ {e : AEnv} {σ : St} {i : Nat} {a : AV}, RepE K H AH e σ → e[i]? = some (some a) → ∃ v, σ[i]? = some (some v) ∧ RepV K H AH a v
  | _, _, _, _, .nil, e => by simp at e
  | _, _, 0, _, .cons (b := b) r _, e => by
    simp at e
    subst e
    cases b with
    | none => exact r.elim
    | some v => exact ⟨v, rfl, r⟩
  | _, _, i + 1, a, .cons _ t, e => by
    obtain ⟨u, h1, h2⟩ := RepE.get (i := i) (a := a) t (by simpa using e)
    exact ⟨u, by simpa using h1, h2⟩
theorem RepE.set {K : PySem.W.Frag} {H : Hp} {AH : AHp} {x : Option AV} {y : Option V} (r : RelE K H AH x y) : ∀ {e : AEnv} {σ : St} (i : Nat), RepE K H AH e σ → RepE K H AH (e.set i x) (σ.set i y)
  | _, _, _, .nil => .nil
  | _, _, 0, .cons _ t => .cons r t
  | _, _, i + 1, .cons q t => .cons q (RepE.set r i t)
def wipeA (e : AEnv) : List Nat → AEnv
  | [] => e
  | v :: vs => (wipeA e vs).set v none
theorem RepE.wipe {K : PySem.W.Frag} {H : Hp} {AH : AHp} {e : AEnv} {σ : St} (h : RepE K H AH e σ) : ∀ vs : List Nat, RepE K H AH (wipeA e vs) (wipe σ vs)
  | [] => h
  | v :: vs => RepE.set (x := none) (y := none) trivial v (RepE.wipe h vs)
theorem RepE.start {K : PySem.W.Frag} {H : Hp} {AH : AHp} : ∀ {as : List AV} {vs : List V} (n : Nat), RepVs K H AH as vs → RepE K H AH (as.map some ++ List.replicate n none) (vs.map some ++ List.replicate n none)
  | _, _, n, .nil => by
    induction n with
    | zero => exact .nil
    | succ n ih => exact .cons trivial ih
  | _, _, n, .cons r t => .cons r (RepE.start n t)

/-! ### readings -/
abbrev TEa := AEnv → AHp → (AV → AHp → Prop) → Prop
abbrev TTa := AEnv → AHp → (Bool → AHp → Prop) → Prop
abbrev TAa := AEnv → AHp → (List AV → AHp → Prop) → Prop
structure EndsA where
  nx : AEnv → AHp → Prop
  rt : AV → AHp → Prop
  bk : AEnv → AHp → Prop := fun _ _ => False
  ct : AEnv → AHp → Prop := fun _ _ => False
  ex : AV → AEnv → AHp → Prop := fun _ _ _ => False
abbrev TSa := EndsA → AEnv → AHp → Prop

/-- what follows, from the concrete side -/
def Post {α β : Type} (K : PySem.W.Frag) (R : Hp → AHp → α → β → Prop) (AH : AHp) (H : Hp) (Q' : α → AHp → Prop) (Q : β → Hp → Prop) : Prop :=
  ∀ a AH' b H', R H' AH' a b → RH K AH' H' → Step AH H AH' H' → Q' a AH' → Q b H'
theorem Post.trans {α β : Type} {K : PySem.W.Frag} {R : Hp → AHp → α → β → Prop} {AH AH1 : AHp} {H H1 : Hp} {Q' : α → AHp → Prop} {Q : β → Hp → Prop} (s : Step AH H AH1 H1) (p : Post K R AH H Q' Q) : Post K R AH1 H1 Q' Q :=
  fun a AH' b H' r g st q => p a AH' b H' r g (s.trans st) q
def Lf {α β : Type} (K : PySem.W.Frag) (R : Hp → AHp → α → β → Prop) (t : AEnv → AHp → (α → AHp → Prop) → Prop) : St → Hp → (β → Hp → Prop) → Prop :=
  fun σ H Q => ∃ env AH Q', RepE K H AH env σ ∧ RH K AH H ∧ t env AH Q' ∧ Post K R AH H Q' Q
abbrev lfE (K : PySem.W.Frag) (t : TEa) : TE := Lf K (RepV K) t
abbrev lfT (K : PySem.W.Frag) (t : TTa) : TT := Lf K (fun _ _ a b => a = b) t
abbrev lfA (K : PySem.W.Frag) (t : TAa) : TA := Lf K (RepVs K) t
/-- what the context X takes of exceptions: the greatest wish -/
def WOf (X : Cx) : WX := fun cls d σ H => ∀ u s', XE X (fun c' d' σ' H' => c' = cls ∧ d' = d ∧ σ' = σ ∧ H' = H) u s' → X.xe u s'
theorem takes_WOf (X : Cx) : Takes X (WOf X) := fun u s' ⟨a, B, sI, pins, σ, H, cls, d, e, I, nb, up, sky, na, os, ag, w⟩ =>
  w u s' ⟨a, B, sI, pins, σ, H, cls, d, e, I, nb, up, sky, na, os, ag, rfl, rfl, rfl, rfl⟩
theorem WOf.of {X : Cx} {W : WX} (t : Takes X W) {cls : Value} {d : Option Addr} {σ : St} {H : Hp} (h : W cls d σ H) : WOf X cls d σ H := fun u s' ⟨a, B, sI, pins, σ', H', cls', d', e, I, nb, up, sky, na, os, ag, e1, e2, e3, e4⟩ => by
  subst e1 e2 e3 e4
  exact t u s' ⟨a, B, sI, pins, _, _, _, _, e, I, nb, up, sky, na, os, ag, h⟩
/-- how an exception lies there -/
def RepX (K : PySem.W.Frag) (mg : Str → Option Value) (H : Hp) (AH : AHp) (x : AV) (cls : Value) (d : Option Addr) : Prop :=
  ∃ n f v C dd, x = .exc n f v ∧ mg n = some (.ref C) ∧ cls = .ref C ∧ d = some dd ∧ ∀ a, RepV K H AH (.cgt a dd f v) (.ref a)
theorem RepX.step {K : PySem.W.Frag} {mg : Str → Option Value} {H H' : Hp} {AH AH' : AHp} {x : AV} {cls : Value} {d : Option Addr} (s : Step AH H AH' H') : RepX K mg H AH x cls d → RepX K mg H' AH' x cls d
  | ⟨n, f, v, C, dd, a, b, c, e, r⟩ => ⟨n, f, v, C, dd, a, b, c, e, fun a => (r a).step s⟩
/-- the ends -/
structure EndOk (X : Cx) (AH : AHp) (H : Hp) (D' : EndsA) (D : Ends) : Prop where
  nx : ∀ e AH' σ H', RepE X.K H' AH' e σ → RH X.K AH' H' → Step AH H AH' H' → D'.nx e AH' → D.nx σ H'
  rt : ∀ a AH' v H', RepV X.K H' AH' a v → RH X.K AH' H' → Step AH H AH' H' → D'.rt a AH' → D.rt v H'
  bk : ∀ e AH' σ H', RepE X.K H' AH' e σ → RH X.K AH' H' → Step AH H AH' H' → D'.bk e AH' → D.bk σ H'
  ct : ∀ e AH' σ H', RepE X.K H' AH' e σ → RH X.K AH' H' → Step AH H AH' H' → D'.ct e AH' → D.ct σ H'
  ex : ∀ x cls d e AH' σ H', RepX X.K X.mg H' AH' x cls d → RepE X.K H' AH' e σ → RH X.K AH' H' → Step AH H AH' H' → D'.ex x e AH' → WOf X cls d σ H'
theorem EndOk.trans {X : Cx} {AH AH1 : AHp} {H H1 : Hp} {D' : EndsA} {D : Ends} (s : Step AH H AH1 H1) (p : EndOk X AH H D' D) : EndOk X AH1 H1 D' D :=
  ⟨fun e A σ G r g st q => p.nx e A σ G r g (s.trans st) q, fun e A σ G r g st q => p.rt e A σ G r g (s.trans st) q, fun e A σ G r g st q => p.bk e A σ G r g (s.trans st) q, fun e A σ G r g st q => p.ct e A σ G r g (s.trans st) q,
    fun x c d e A σ G rx r g st q => p.ex x c d e A σ G rx r g (s.trans st) q⟩
def lfS (X : Cx) (t : TSa) : TS := fun D σ H => ∃ env AH D', RepE X.K H AH env σ ∧ RH X.K AH H ∧ t D' env AH ∧ EndOk X AH H D' D

section
variable {X : Cx}
theorem pe_weak {e : Expr} {t u : TE} (h : PE X e t) (w : ∀ σ H Q, u σ H Q → t σ H Q) : PE X e u := ⟨fun p s σ H Q I q => h.run p s σ H Q I (w _ _ _ q)⟩
theorem pt_weak {e : Expr} {t u : TT} (h : PT X e t) (w : ∀ σ H Q, u σ H Q → t σ H Q) : PT X e u := ⟨fun p s σ H Q I q => h.run p s σ H Q I (w _ _ _ q)⟩
theorem pw_weak {e : Expr} {t u : TT} (h : PW X e t) (w : ∀ σ H Q, u σ H Q → t σ H Q) : PW X e u := ⟨fun y p s σ H Q I q => h.run y p s σ H Q I (w _ _ _ q)⟩
theorem pa_weak {e : List Expr} {t u : TA} (h : PA X e t) (w : ∀ σ H Q, u σ H Q → t σ H Q) : PA X e u := ⟨fun y p s σ H Q I q => h.run y p s σ H Q I (w _ _ _ q)⟩
theorem ps_weak {e : Stmt} {t u : TS} (h : PS X e t) (w : ∀ D σ H, u D σ H → t D σ H) : PS X e u := ⟨fun p s σ H Q I q => h.run p s σ H Q I (w _ _ _ q)⟩
theorem pss_weak {e : List Stmt} {t u : TS} (h : PSs X e t) (w : ∀ D σ H, u D σ H → t D σ H) : PSs X e u := ⟨fun p s σ H Q I q => h.run p s σ H Q I (w _ _ _ q)⟩

/-- judgements -/
abbrev DE (X : Cx) (e : Expr) (t : TEa) : Prop := PE X e (lfE X.K t)
abbrev DT (X : Cx) (e : Expr) (t : TTa) : Prop := PT X e (lfT X.K t)
abbrev DW (X : Cx) (e : Expr) (t : TTa) : Prop := PW X e (lfT X.K t)
abbrev DA (X : Cx) (e : List Expr) (t : TAa) : Prop := PA X e (lfA X.K t)
abbrev DS (X : Cx) (e : Stmt) (t : TSa) : Prop := PS X e (lfS X t)
abbrev DSs (X : Cx) (e : List Stmt) (t : TSa) : Prop := PSs X e (lfS X t)

/-! ### names, constants -/
def aVar (i : Nat) : TEa := fun e A Q => ∃ v, e[i]? = some (some v) ∧ Q v A
def aC (v : AV) : TEa := fun _ A Q => Q v A
theorem de_var {i : Nat} {e : Expr} (h : PE X e (tVar i)) : DE X e (aVar i) := pe_weak h fun σ H Q ⟨env, AH, Q', re, g, ⟨v, hv, q⟩, p⟩ => by
  obtain ⟨u, h1, h2⟩ := re.get hv
  exact ⟨u, h1, p _ _ _ _ h2 g .refl q⟩
theorem dv (i : Nat) {x : Str} {pos : Pos} (hN : X.N[i]? = some x := by rfl) (hv : Vis X.env.scope x := by first | exact Or.inl rfl | exact Or.inr (Or.inl rfl) | exact Or.inr (Or.inr rfl)) (hd : (x == ("__debug__" : Str)) = false := by decide)
    (hcd : (x == ("__classdict__" : Str)) = false := by decide) : DE X (.Name x pos) (aVar i) := de_var (pv i hN hv hd hcd)
theorem de_c {e : Expr} {v : V} {a : AV} (h : PE X e (tC v)) (r : ∀ H AH, RepV X.K H AH a v) : DE X e (aC a) := pe_weak h fun σ H Q ⟨env, AH, Q', re, g, q, p⟩ => p _ _ _ _ (r _ _) g .refl q
theorem de_int {i j pos} : DE X (.Constant (.int i) j pos) (aC (.int i)) := de_c pe_int fun _ _ => .int i
theorem de_bl {i j pos} : DE X (.Constant (.bool i) j pos) (aC (.bl i)) := de_c pe_bl fun _ _ => .bl i
theorem de_non {j pos} : DE X (.Constant .none j pos) (aC .non) := de_c pe_non fun _ _ => .non
theorem de_str {x j pos} : DE X (.Constant (.str x) j pos) (aC (.str x)) := de_c pe_str fun _ _ => .str x

/-! ### operators -/
abbrev RA2 := AV → AV → AHp → (AV → AHp → Prop) → Prop
/-- a rule on values, lifted -/
def lf2 (K : PySem.W.Frag) (r : RA2) : R2 := fun x y H Q => ∃ a b AH Q', RepV K H AH a x ∧ RepV K H AH b y ∧ RH K AH H ∧ r a b AH Q' ∧ Post K (RepV K) AH H Q' Q
def aOp (r : RA2) (ta tb : TEa) : TEa := fun e A Q => ta e A fun x A1 => tb e A1 fun y A2 => r x y A2 Q
theorem lf2_use {K : PySem.W.Frag} {r : RA2} {ta tb : TEa} {σ : St} {H : Hp} {Q : VK} (h : lfE K (aOp r ta tb) σ H Q) : lfE K ta σ H fun x H1 => lfE K tb σ H1 fun y H2 => lf2 K r x y H2 Q := by
  obtain ⟨env, AH, Q', re, g, t, p⟩ := h
  refine ⟨env, AH, _, re, g, t, fun x A1 vx H1 rx g1 s1 q1 => ?_⟩
  refine ⟨env, A1, _, re.step s1, g1, q1, fun y A2 vy H2 ry g2 s2 q2 => ?_⟩
  exact ⟨x, y, A2, Q', rx.step s2, ry, g2, q2, p.trans (s1.trans s2)⟩
theorem de_op {a b : Expr} {ta tb : TEa} {op : Operator} {r : RA2} {pos : Pos} (ho : OpR X (binaryOp op) (lf2 X.K r)) (ha : DE X a ta) (hb : DE X b tb) : DE X (.BinOp a op b pos) (aOp r ta tb) :=
  pe_weak (pe_op ho ha hb) fun σ H Q h => lf2_use h
theorem opR_or {f : Value → Value → Sem Value} {r r' : R2} (h : OpR X f r) (h' : OpR X f r') : OpR X f (fun x y H Q => r x y H Q ∨ r' x y H Q) :=
  fun pins s σ H x y v u Q I rx ry q => q.elim (h pins s σ H x y v u Q I rx ry) (h' pins s σ H x y v u Q I rx ry)
theorem opR_weak {f : Value → Value → Sem Value} {r r' : R2} (h : OpR X f r) (w : ∀ x y H Q, r' x y H Q → r x y H Q) : OpR X f r' :=
  fun pins s σ H x y v u Q I rx ry q => h pins s σ H x y v u Q I rx ry (w _ _ _ _ q)
end
end D

set_option Elab.async false
set_option linter.all false
set_option maxRecDepth 100000
namespace D
open PySem PySem.Spec L2
section
variable {X : Cx} {K : PySem.W.Frag} {H : Hp} {A : AHp}

/-! ### what a value holds -/
def lsOf (A : AHp) : AV → Option (List AV)
  | .fl xs => some xs
  | .kl xs => some xs
  | .ref p => match A p with
    | some (.lst xs) => some xs
    | _ => none
  | _ => none
def tpOf : AV → Option (List AV)
  | .tup xs => some xs
  | _ => none
def sqOf (A : AHp) (v : AV) : Option (List AV) := match v with
  | .tup xs => some xs
  | v => lsOf A v
theorem lsOf_fl {xs : List AV} : lsOf A (.fl xs) = some xs := rfl
theorem lsOf_ref {p : Addr} {xs : List AV} (h : A p = some (.lst xs)) : lsOf A (.ref p) = some xs := by unfold lsOf; simp only [h]
theorem sqOf_ref {p : Addr} {xs : List AV} (h : A p = some (.lst xs)) : sqOf A (.ref p) = some xs := lsOf_ref h
theorem lsOf_ok {a : AV} {v : V} {xs : List AV} (r : RepV K H A a v) (g : RH K A H) (h : lsOf A a = some xs) : ∃ p vs, v = .ref p ∧ SqL K H p vs ∧ RepVs K H A xs vs := by
  cases r with
  | fl f rs => cases h; exact ⟨_, _, rfl, .of f.1, rs⟩
  | kl f rs => cases h; exact ⟨_, _, rfl, f.sq, rs⟩
  | ref p =>
    unfold lsOf at h
    cases e : A p with
    | none => simp only [e] at h; cases h
    | some o =>
      cases o with
      | dct _ => simp only [e] at h; cases h
      | lst ys =>
        simp only [e] at h
        cases h
        obtain ⟨u, h1, vs, rfl, h2⟩ := g p _ e
        exact ⟨p, vs, rfl, .of h1, h2⟩
  | _ => cases h
theorem tpOf_ok {a : AV} {v : V} {xs : List AV} (r : RepV K H A a v) (h : tpOf a = some xs) : ∃ p vs, v = .ref p ∧ SqT K H p vs ∧ RepVs K H A xs vs := by
  cases r with
  | tup f rs => cases h; exact ⟨_, _, rfl, f.sq, rs⟩
  | _ => cases h
theorem sqOf_ok {a : AV} {v : V} {xs : List AV} (r : RepV K H A a v) (g : RH K A H) (h : sqOf A a = some xs) : ∃ p vs, v = .ref p ∧ (SqL K H p vs ∨ SqT K H p vs) ∧ RepVs K H A xs vs := by
  cases r with
  | tup f rs => cases h; exact ⟨_, _, rfl, .inr f.sq, rs⟩
  | fl f rs => obtain ⟨p, vs, e, s, q⟩ := lsOf_ok (.fl f rs) g h; exact ⟨p, vs, e, .inl s, q⟩
  | kl f rs => obtain ⟨p, vs, e, s, q⟩ := lsOf_ok (.kl f rs) g h; exact ⟨p, vs, e, .inl s, q⟩
  | ref a => obtain ⟨p, vs, e, s, q⟩ := lsOf_ok (.ref a) g h; exact ⟨p, vs, e, .inl s, q⟩
  | _ => cases h
theorem repVs_map {α : Type} {f : α → AV} {g : α → V} (hf : ∀ x v, RepV K H A (f x) v → v = g x) : ∀ {xs : List α} {vs : List V}, RepVs K H A (xs.map f) vs → vs = xs.map g
  | [], _, .nil => rfl
  | x :: r, _, .cons h t => by rw [hf x _ h, repVs_map hf t] <;> rfl
theorem repVs_ints {ns : List Int} {vs : List V} (h : RepVs K H A (ns.map AV.int) vs) : vs = ns.map V.int := repVs_map (fun _ _ r => by cases r; rfl) h
theorem repVs_strs {ns : List Str} {vs : List V} (h : RepVs K H A (ns.map AV.str) vs) : vs = ns.map V.str := repVs_map (fun _ _ r => by cases r; rfl) h
theorem repVs_bls {ns : List Bool} {vs : List V} (h : RepVs K H A (ns.map AV.bl) vs) : vs = ns.map V.bl := repVs_map (fun _ _ r => by cases r; rfl) h
theorem of_ints {ns : List Int} : RepVs K H A (ns.map AV.int) (ns.map V.int) := by
  induction ns with
  | nil => exact .nil
  | cons x r ih => exact .cons (.int x) ih

/-! ### + - * // % ** -/
theorem new_tup {xs : List AV} {vs : List V} {p : Addr} {AH' : AHp} {Q' : AV → AHp → Prop} {Q : VK} (P : Post K (RepV K) A H Q' Q) (g : RH K A H) (hp : H p = none) (r : RepVs K H A xs vs) (q : Q' (.tup xs) A) : Q (.ref p) (upd H p (.tup vs)) :=
  P _ A _ _ (.tup (.inl ⟨.inl upd_same, g.noneA hp⟩) (r.step (Step.fz (K := K) hp))) (g.fz hp) (Step.fz (K := K) hp) q
theorem new_fl {xs : List AV} {vs : List V} {p : Addr} {Q' : AV → AHp → Prop} {Q : VK} (P : Post K (RepV K) A H Q' Q) (g : RH K A H) (hp : H p = none) (r : RepVs K H A xs vs) (q : Q' (.fl xs) A) : Q (.ref p) (upd H p (.lst vs)) :=
  P _ A _ _ (.fl ⟨upd_same, g.noneA hp⟩ (r.step (Step.fz (K := K) hp))) (g.fz hp) (Step.fz (K := K) hp) q
theorem new_lst {xs : List AV} {vs : List V} {p : Addr} {Q' : AV → AHp → Prop} {Q : VK} (P : Post K (RepV K) A H Q' Q) (g : RH K A H) (hp : H p = none) (r : RepVs K H A xs vs) (q : Q' (.ref p) (updA A p (.lst xs))) : Q (.ref p) (upd H p (.lst vs)) :=
  P _ _ _ _ (.ref p) (g.new hp (show RepO K H A (.lst xs) (.lst vs) from ⟨vs, rfl, r⟩)) (Step.new hp) q

/-- a finished list that the program made -/
def OwnL (H : Hp) (v : V) : Prop := ∀ p, v = .ref p → ∃ xs, H p = some (.lst xs)

def addR : RA2 := fun x y A Q => match x, y with
  | .int i, .int j => Q (.int (i + j)) A
  | .str a, .str b => a.length + b.length ≤ sizeLine ∧ Q (.str (a ++ b)) A
  | .tup a, .tup b => a.length + b.length ≤ sizeLine ∧ Q (.tup (a ++ b)) A
  | _, _ => False
theorem o_add : OpR X (binaryOp .Add) (lf2 X.K addR) := by
  intro pins s σ H x y v u Q I rx ry ⟨a, b, A, Q', ra, rb, g, r, P⟩
  cases ra <;> cases rb <;> first | exact r.elim | skip
  · exact op_add pins s σ H _ _ v u Q I rx ry ⟨_, _, rfl, rfl, P _ _ _ _ (.int _) g .refl r⟩
  · exact op_add_str pins s σ H _ _ v u Q I rx ry ⟨_, _, rfl, rfl, r.1, P _ _ _ _ (.str _) g .refl r.2⟩
  · rename_i a1 vs1 as1 f1 r1 a2 vs2 as2 f2 r2
    obtain ⟨hl, q⟩ := r
    refine op_catA pins s σ H _ _ v u Q I rx ry ⟨_, _, vs1, vs2, rfl, rfl, f1.sq, f2.sq, by rw [← r1.length, ← r2.length]; exact hl, fun e => ?_, fun _ e => ?_, fun _ _ p hp => ?_⟩
    · subst e; cases r1; exact P _ _ _ _ (.tup f2 r2) g .refl q
    · subst e; cases r2; rw [List.append_nil] at q; exact P _ _ _ _ (.tup f1 r1) g .refl q
    · exact new_tup (AH' := A) P g hp (r1.append r2) q
def subR : RA2 := fun x y A Q => match x, y with
  | .int i, .int j => Q (.int (i - j)) A
  | _, _ => False
theorem o_sub : OpR X (binaryOp .Sub) (lf2 X.K subR) := by
  intro pins s σ H x y v u Q I rx ry ⟨a, b, A, Q', ra, rb, g, r, P⟩
  cases ra <;> cases rb <;> first | exact r.elim | skip
  exact op_sub pins s σ H _ _ v u Q I rx ry ⟨_, _, rfl, rfl, P _ _ _ _ (.int _) g .refl r⟩
def divR : RA2 := fun x y A Q => match x, y with
  | .int i, .int j => 0 < j ∧ j < 1073741824 ∧ Q (.int (i / j)) A
  | _, _ => False
theorem o_fdiv : OpR X (binaryOp .FloorDiv) (lf2 X.K divR) := by
  intro pins s σ H x y v u Q I rx ry ⟨a, b, A, Q', ra, rb, g, r, P⟩
  cases ra <;> cases rb <;> first | exact r.elim | skip
  exact op_fdiv pins s σ H _ _ v u Q I rx ry ⟨_, _, rfl, rfl, ⟨r.1, r.2.1⟩, P _ _ _ _ (.int _) g .refl r.2.2⟩
def modR : RA2 := fun x y A Q => match x, y with
  | .int i, .int j => 0 < j ∧ Q (.int (i % j)) A
  | _, _ => False
theorem o_mod : OpR X (binaryOp .Mod) (lf2 X.K modR) := by
  intro pins s σ H x y v u Q I rx ry ⟨a, b, A, Q', ra, rb, g, r, P⟩
  cases ra <;> cases rb <;> first | exact r.elim | skip
  exact op_mod pins s σ H _ _ v u Q I rx ry ⟨_, _, rfl, rfl, r.1, P _ _ _ _ (.int _) g .refl r.2⟩
def powR : RA2 := fun x y A Q => match x, y with
  | .int i, .int j => CPow i j ∧ Q (.int (i ^ j.toNat)) A
  | _, _ => False
theorem o_pow : OpR X (binaryOp .Pow) (lf2 X.K powR) := by
  intro pins s σ H x y v u Q I rx ry ⟨a, b, A, Q', ra, rb, g, r, P⟩
  cases ra <;> cases rb <;> first | exact r.elim | skip
  exact op_pow pins s σ H _ _ v u Q I rx ry ⟨_, _, rfl, rfl, r.1, P _ _ _ _ (.int _) g .refl r.2⟩

def mulR : RA2 := fun x y A Q => match x, y with
  | .int i, .int j => (CMul i j ∨ CMulW i j) ∧ Q (.int (i * j)) A
  | .fl xs, .int k => -(2 ^ 63) ≤ k ∧ k < 2 ^ 63 ∧ xs.length * k.toNat ≤ sizeLine ∧ Q (.fl (List.replicate k.toNat xs).flatten) A
  | .tup xs, .int k => xs ≠ [] ∧ 2 ≤ k ∧ k ≤ 1000 ∧ xs.length ≤ 1000 ∧ Q (.tup (List.replicate k.toNat xs).flatten) A
  | _, _ => False
theorem o_mul : OpR X (binaryOp .Mult) (lf2 X.K mulR) := by
  intro pins s σ H x y v u Q I rx ry ⟨a, b, A, Q', ra, rb, g, r, P⟩
  cases ra <;> cases rb <;> first | exact r.elim | skip
  · obtain ⟨hc | hc, q⟩ := r
    · exact op_mul pins s σ H _ _ v u Q I rx ry ⟨_, _, rfl, rfl, hc, P _ _ _ _ (.int _) g .refl q⟩
    · exact op_mulW pins s σ H _ _ v u Q I rx ry ⟨_, _, rfl, rfl, hc, P _ _ _ _ (.int _) g .refl q⟩
  · rename_i a1 vs1 as1 f1 r1 k
    obtain ⟨h0, h1, h2, h3, q⟩ := r
    refine op_repT pins s σ H _ _ v u Q I rx ry ⟨_, _, vs1, rfl, rfl, f1.sq, fun e => h0 (r1.nil_iff.mp e), h1, h2, by rw [← r1.length]; exact h3, fun p hp => ?_⟩
    exact new_tup (AH' := A) P g hp (r1.flat _) q
  · rename_i a1 vs1 as1 f1 r1 k
    obtain ⟨h1, h2, h3, q⟩ := r
    refine op_rep pins s σ H _ _ v u Q I rx ry ⟨_, _, vs1, rfl, rfl, f1.1, h1, h2, by rw [← r1.length]; exact h3, fun p hp => ?_⟩
    exact new_fl P g hp (r1.flat _) q

/-! ### comparisons -/
def ltR : RA2 := fun x y A Q => match x, y with
  | .int i, .int j => Q (.bl (decide (i < j))) A
  | _, _ => False
def leR : RA2 := fun x y A Q => match x, y with
  | .int i, .int j => Q (.bl (decide (i ≤ j))) A
  | _, _ => False
def gtR : RA2 := fun x y A Q => match x, y with
  | .int i, .int j => Q (.bl (decide (j < i))) A
  | _, _ => False
def geR : RA2 := fun x y A Q => match x, y with
  | .int i, .int j => Q (.bl (decide (j ≤ i))) A
  | _, _ => False
theorem c_lt : OpR X (compareOp .Lt) (lf2 X.K ltR) := by
  intro pins s σ H x y v u Q I rx ry ⟨a, b, A, Q', ra, rb, g, r, P⟩
  cases ra <;> cases rb <;> first | exact r.elim | skip
  exact op_lt pins s σ H _ _ v u Q I rx ry ⟨_, _, rfl, rfl, P _ _ _ _ (.bl _) g .refl r⟩
theorem c_le : OpR X (compareOp .LtE) (lf2 X.K leR) := by
  intro pins s σ H x y v u Q I rx ry ⟨a, b, A, Q', ra, rb, g, r, P⟩
  cases ra <;> cases rb <;> first | exact r.elim | skip
  exact op_le pins s σ H _ _ v u Q I rx ry ⟨_, _, rfl, rfl, P _ _ _ _ (.bl _) g .refl r⟩
theorem c_gt : OpR X (compareOp .Gt) (lf2 X.K gtR) := by
  intro pins s σ H x y v u Q I rx ry ⟨a, b, A, Q', ra, rb, g, r, P⟩
  cases ra <;> cases rb <;> first | exact r.elim | skip
  exact op_gt pins s σ H _ _ v u Q I rx ry ⟨_, _, rfl, rfl, P _ _ _ _ (.bl _) g .refl r⟩
theorem c_ge : OpR X (compareOp .GtE) (lf2 X.K geR) := by
  intro pins s σ H x y v u Q I rx ry ⟨a, b, A, Q', ra, rb, g, r, P⟩
  cases ra <;> cases rb <;> first | exact r.elim | skip
  exact op_ge pins s σ H _ _ v u Q I rx ry ⟨_, _, rfl, rfl, P _ _ _ _ (.bl _) g .refl r⟩

/-! ### values as data -/
mutual
def dataN : AV → Option PyData
  | .non => some .none
  | .bl b => some (.bool b)
  | .int i => some (.int i)
  | .str x => some (.str x)
  | .tup xs => (dataNs xs).map .tuple
  | .fl xs => (dataNs xs).map .list
  | .kl xs => (dataNs xs).map .list
  | .ref _ => none
  | .ty _ => none
  | .exc _ _ _ => none
  | .cgt _ _ _ _ => none
def dataNs : List AV → Option (List PyData)
  | [] => some []
  | x :: xs => (dataN x).bind fun d => (dataNs xs).map fun ds => d :: ds
end
def dataA (A : AHp) : AV → Option PyData
  | .ref p => match A p with
    | some (.lst xs) => (dataNs xs).map .list
    | _ => none
  | v => dataN v
mutual
theorem dataN_ok : ∀ {a : AV} {v : V} {d : PyData}, RepV K H A a v → dataN a = some d → Dp K H v d
  | _, _, _, .non, h => by cases h; exact .non
  | _, _, _, .bl b, h => by cases h; exact .bl b
  | _, _, _, .int b, h => by cases h; exact .int b
  | _, _, _, .str b, h => by cases h; exact .str b
  | _, _, _, .ty b, h => by cases h
  | _, _, _, .ref b, h => by cases h
  | _, _, _, .cgt _ _ _, h => by cases h
  | _, _, _, .tup f r, h => by
    obtain ⟨ds, h1, rfl⟩ := Option.map_eq_some_iff.mp h
    exact .tup f.sq (dataNs_ok r h1)
  | _, _, _, .fl f r, h => by
    obtain ⟨ds, h1, rfl⟩ := Option.map_eq_some_iff.mp h
    exact .lst (.of f.1) (dataNs_ok r h1)
  | _, _, _, .kl f r, h => by
    obtain ⟨ds, h1, rfl⟩ := Option.map_eq_some_iff.mp h
    exact .lst f.sq (dataNs_ok r h1)
theorem dataNs_ok : ∀ {as : List AV} {vs : List V} {ds : List PyData}, RepVs K H A as vs → dataNs as = some ds → DpAll K H vs ds
  | _, _, _, .nil, h => by cases h; exact .nil
  | _, _, _, .cons r t, h => by
    obtain ⟨d, h1, h2⟩ := Option.bind_eq_some_iff.mp h
    obtain ⟨ds, h3, rfl⟩ := Option.map_eq_some_iff.mp h2
    exact .cons (dataN_ok r h1) (dataNs_ok t h3)
end
theorem dataA_ok {a : AV} {v : V} {d : PyData} (r : RepV K H A a v) (g : RH K A H) (h : dataA A a = some d) : Dp K H v d := by
  cases r with
  | ref p =>
    unfold dataA at h
    cases e : A p with
    | none => simp only [e] at h; cases h
    | some o =>
      cases o with
      | dct _ => simp only [e] at h; cases h
      | lst ys =>
        simp only [e] at h
        obtain ⟨ds, h3, rfl⟩ := Option.map_eq_some_iff.mp h
        obtain ⟨u, h1, vs, rfl, h2⟩ := g p _ e
        exact .lst (.of h1) (dataNs_ok h2 h3)
  | non => exact dataN_ok (A := A) .non h
  | bl b => exact dataN_ok (A := A) (.bl b) h
  | int b => exact dataN_ok (A := A) (.int b) h
  | str b => exact dataN_ok (A := A) (.str b) h
  | ty b => exact dataN_ok (K := K) (H := H) (A := A) (.ty b) h
  | tup f r => exact dataN_ok (.tup f r) h
  | fl f r => exact dataN_ok (.fl f r) h
  | kl f r => exact dataN_ok (.kl f r) h
  | cgt f l r => exact dataN_ok (.cgt f l r) h

def eqG (neg : Bool) : RA2 := fun x y A Q => ∃ d e, dataA A x = some d ∧ dataA A y = some e ∧ SeqAt.shaped d = true ∧ SeqAt.shaped e = true ∧ Q (.bl (if neg then !PyData.eqv d e else PyData.eqv d e)) A
def eqR : RA2 := fun x y A Q => match x, y with
  | .int i, .int j => Q (.bl (decide (i = j))) A
  | .str i, .str j => Q (.bl (decide (i = j))) A
  | x, y => eqG false x y A Q
def neR : RA2 := fun x y A Q => match x, y with
  | .int i, .int j => Q (.bl (!decide (i = j))) A
  | .str i, .str j => Q (.bl (!decide (i = j))) A
  | x, y => eqG true x y A Q
theorem c_eqG (hu : X.A.units + 64 < cLine) : OpR X (compareOp .Eq) (lf2 X.K (eqG false)) := by
  intro pins s σ H x y v u Q I rx ry ⟨a, b, A, Q', ra, rb, g, ⟨d, e, h1, h2, h3, h4, q⟩, P⟩
  exact op_eqD hu pins s σ H _ _ v u Q I rx ry ⟨d, e, dataA_ok ra g h1, dataA_ok rb g h2, h3, h4, P _ _ _ _ (.bl _) g .refl q⟩
theorem c_neG (hu : X.A.units + 64 < cLine) : OpR X (compareOp .NotEq) (lf2 X.K (eqG true)) := by
  intro pins s σ H x y v u Q I rx ry ⟨a, b, A, Q', ra, rb, g, ⟨d, e, h1, h2, h3, h4, q⟩, P⟩
  exact op_neD hu pins s σ H _ _ v u Q I rx ry ⟨d, e, dataA_ok ra g h1, dataA_ok rb g h2, h3, h4, P _ _ _ _ (.bl _) g .refl q⟩
theorem dec_vi {i j : Int} : decide (V.int i = V.int j) = decide (i = j) := by simp
theorem dec_vs {i j : Str} : decide (V.str i = V.str j) = decide (i = j) := by simp
theorem c_eq (hu : X.A.units + 64 < cLine) : OpR X (compareOp .Eq) (lf2 X.K eqR) := by
  intro pins s σ H x y v u Q I rx ry ⟨a, b, A, Q', ra, rb, g, r, P⟩
  by_cases hi : ∃ i j, a = .int i ∧ b = .int j
  · obtain ⟨i, j, rfl, rfl⟩ := hi
    cases ra; cases rb
    exact op_eq pins s σ H _ _ v u Q I rx ry ⟨rfl, by rw [dec_vi]; exact P _ _ _ _ (.bl _) g .refl r⟩
  by_cases hs : ∃ i j, a = .str i ∧ b = .str j
  · obtain ⟨i, j, rfl, rfl⟩ := hs
    cases ra; cases rb
    exact op_eq pins s σ H _ _ v u Q I rx ry ⟨rfl, by rw [dec_vs]; exact P _ _ _ _ (.bl _) g .refl r⟩
  refine c_eqG hu pins s σ H x y v u Q I rx ry ⟨a, b, A, Q', ra, rb, g, ?_, P⟩
  unfold eqR at r
  split at r
  · exact absurd ⟨_, _, rfl, rfl⟩ hi
  · exact absurd ⟨_, _, rfl, rfl⟩ hs
  · exact r
theorem c_ne (hu : X.A.units + 64 < cLine) : OpR X (compareOp .NotEq) (lf2 X.K neR) := by
  intro pins s σ H x y v u Q I rx ry ⟨a, b, A, Q', ra, rb, g, r, P⟩
  by_cases hi : ∃ i j, a = .int i ∧ b = .int j
  · obtain ⟨i, j, rfl, rfl⟩ := hi
    cases ra; cases rb
    exact op_ne pins s σ H _ _ v u Q I rx ry ⟨rfl, by rw [dec_vi]; exact P _ _ _ _ (.bl _) g .refl r⟩
  by_cases hs : ∃ i j, a = .str i ∧ b = .str j
  · obtain ⟨i, j, rfl, rfl⟩ := hs
    cases ra; cases rb
    exact op_ne pins s σ H _ _ v u Q I rx ry ⟨rfl, by rw [dec_vs]; exact P _ _ _ _ (.bl _) g .refl r⟩
  refine c_neG hu pins s σ H x y v u Q I rx ry ⟨a, b, A, Q', ra, rb, g, ?_, P⟩
  unfold neR at r
  split at r
  · exact absurd ⟨_, _, rfl, rfl⟩ hi
  · exact absurd ⟨_, _, rfl, rfl⟩ hs
  · exact r

/-! ### in -/
/-- a value that == tells by itself -/
def flA : AV → Option V
  | .non => some .non
  | .bl b => some (.bl b)
  | .int i => some (.int i)
  | .str x => some (.str x)
  | _ => none
theorem flA_ok {a : AV} {v f : V} (r : RepV K H A a v) (h : flA a = some f) : v = f ∧ flatV v = true := by
  cases r <;> cases h <;> exact ⟨rfl, rfl⟩
def flAs : List AV → Option (List V)
  | [] => some []
  | x :: xs => (flA x).bind fun d => (flAs xs).map fun ds => d :: ds
theorem flAs_ok : ∀ {as : List AV} {vs fs : List V}, RepVs K H A as vs → flAs as = some fs → vs = fs ∧ vs.all flatV = true
  | _, _, _, .nil, h => by cases h; exact ⟨rfl, rfl⟩
  | _, _, _, .cons r t, h => by
    obtain ⟨d, h1, h2⟩ := Option.bind_eq_some_iff.mp h
    obtain ⟨ds, h3, rfl⟩ := Option.map_eq_some_iff.mp h2
    obtain ⟨e1, e2⟩ := flA_ok r h1
    obtain ⟨e3, e4⟩ := flAs_ok t h3
    exact ⟨by rw [e1, e3], by rw [List.all_cons, e2, e4]; rfl⟩
theorem flAs_strs (ns : List Str) : flAs (ns.map AV.str) = some (ns.map V.str) := by
  induction ns with
  | nil => rfl
  | cons x r ih => rw [List.map_cons, flAs, ih]; rfl
theorem flAs_ints (ns : List Int) : flAs (ns.map AV.int) = some (ns.map V.int) := by
  induction ns with
  | nil => rfl
  | cons x r ih => rw [List.map_cons, flAs, ih]; rfl
theorem inV_strs (x : Str) (ns : List Str) : inV (.str x) (ns.map V.str) = decide (x ∈ ns) := by
  induction ns with
  | nil => rfl
  | cons y r ih =>
    have h : inV (.str x) ((y :: r).map V.str) = ((y == x) || inV (.str x) (r.map V.str)) := rfl
    rw [h, ih]
    by_cases e : y = x
    · subst e
      rw [beq_self_eq_true, Bool.true_or]
      exact (decide_eq_true List.mem_cons_self).symm
    · rw [beq_eq_false_iff_ne.mpr e, Bool.false_or]
      exact decide_eq_decide.mpr ⟨fun m => List.mem_cons_of_mem _ m, fun m => (List.mem_cons.mp m).resolve_left fun z => e z.symm⟩
theorem inV_ints (x : Int) (ns : List Int) : inV (.int x) (ns.map V.int) = decide (x ∈ ns) := by
  induction ns with
  | nil => rfl
  | cons y r ih =>
    have h : inV (.int x) ((y :: r).map V.int) = ((y == x) || inV (.int x) (r.map V.int)) := rfl
    rw [h, ih]
    by_cases e : y = x
    · subst e
      rw [beq_self_eq_true, Bool.true_or]
      exact (decide_eq_true List.mem_cons_self).symm
    · rw [beq_eq_false_iff_ne.mpr e, Bool.false_or]
      exact decide_eq_decide.mpr ⟨fun m => List.mem_cons_of_mem _ m, fun m => (List.mem_cons.mp m).resolve_left fun z => e z.symm⟩
def keyA : AV → Option Key
  | .int i => some (.inl i)
  | .str x => some (.inr x)
  | _ => none
theorem keyA_ok {a : AV} {v : V} {k : Key} (r : RepV K H A a v) (h : keyA a = some k) : v = kV k := by
  cases r <;> cases h <;> rfl
def valA (kvs : List (Key × AV)) (k : Key) : Option AV := (kvs.find? fun p => decide (p.1 = k)).map (·.2)
theorem valA_ok {k : Key} : ∀ {kvs : List (Key × AV)} {vs : List (Key × V)}, RepKV K H A kvs vs → match valA kvs k, valV vs k with
    | some a, some v => RepV K H A a v
    | none, none => True
    | _, _ => False
  | _, _, .nil => trivial
  | _, _, .cons (a := p) (b := q) r t => by
    have ih := valA_ok (k := k) t
    unfold valA valV
    rw [List.find?_cons, List.find?_cons]
    obtain ⟨e, rv⟩ := r
    rw [← e]
    by_cases h : p.1 = k
    · simp only [decide_eq_true h]; exact rv
    · simp only [decide_eq_false h]; exact ih
def dcOf (A : AHp) : AV → Option (List (Key × AV))
  | .ref p => match A p with
    | some (.dct kvs) => some kvs
    | _ => none
  | _ => none
theorem dcOf_ref {p : Addr} {kvs : List (Key × AV)} (h : A p = some (.dct kvs)) : dcOf A (.ref p) = some kvs := by unfold dcOf; simp only [h]
theorem dcOf_ok {a : AV} {v : V} {kvs : List (Key × AV)} (r : RepV K H A a v) (g : RH K A H) (h : dcOf A a = some kvs) : ∃ p vs, a = .ref p ∧ v = .ref p ∧ A p = some (.dct kvs) ∧ H p = some (.dK vs) ∧ RepKV K H A kvs vs := by
  cases r with
  | ref p =>
    unfold dcOf at h
    cases e : A p with
    | none => simp only [e] at h; cases h
    | some o =>
      cases o with
      | lst _ => simp only [e] at h; cases h
      | dct ys =>
        simp only [e] at h
        cases h
        obtain ⟨u, h1, vs, rfl, h2⟩ := g p _ e
        exact ⟨p, vs, rfl, rfl, e, h1, h2⟩
  | _ => cases h
/-- x in y -/
def inR (neg : Bool) : RA2 := fun x y A Q => match y with
  | .str z => ∃ c, x = .str ⟨#[c]⟩ ∧ Q (.bl (if neg then !decide (c ∈ z.cps.toList) else decide (c ∈ z.cps.toList))) A
  | y => (∃ ys f fs, sqOf A y = some ys ∧ flA x = some f ∧ flAs ys = some fs ∧ Q (.bl (if neg then !inV f fs else inV f fs)) A) ∨
      ∃ kvs k, dcOf A y = some kvs ∧ keyA x = some k ∧ Q (.bl (if neg then !(valA kvs k).isSome else (valA kvs k).isSome)) A
theorem valA_isSome {kvs : List (Key × AV)} {vs : List (Key × V)} {k : Key} (r : RepKV K H A kvs vs) : (valV vs k).isSome = (valA kvs k).isSome := by
  have h := valA_ok (k := k) r
  cases e1 : valA kvs k <;> cases e2 : valV vs k <;> simp only [e1, e2] at h ⊢ <;> first | rfl | exact h.elim
theorem c_in (hu : X.A.units + 1 < cLine) : OpR X (compareOp .In) (lf2 X.K (inR false)) := by
  intro pins s σ H x y v u Q I rx ry ⟨a, b, A, Q', ra, rb, g, r, P⟩
  have go : ((∃ ys f fs, sqOf A b = some ys ∧ flA a = some f ∧ flAs ys = some fs ∧ Q' (.bl (if false then !inV f fs else inV f fs)) A) ∨
      ∃ kvs k, dcOf A b = some kvs ∧ keyA a = some k ∧ Q' (.bl (if false then !(valA kvs k).isSome else (valA kvs k).isSome)) A) → wpAny (model X.prog X.w) X.A (compareOp .In v u) (EP X pins σ Q) X.xe s := by
    rintro (⟨ys, f, fs, h1, h2, h3, q⟩ | ⟨kvs, k, h1, h2, q⟩)
    · obtain ⟨p, vs, rfl, hs, rs⟩ := sqOf_ok rb g h1
      obtain ⟨e1, e2⟩ := flA_ok ra h2
      obtain ⟨e3, e4⟩ := flAs_ok rs h3
      refine op_in_seq pins s σ H _ _ v u Q I rx ry ⟨p, vs, rfl, hs, e2, e4, ?_⟩
      subst e1 e3
      exact P _ _ _ _ (.bl _) g .refl q
    · obtain ⟨p, vs, rfl, rfl, ha, hH, rk⟩ := dcOf_ok rb g h1
      have e1 := keyA_ok ra h2
      subst e1
      cases ry
      refine d_in hu I (DGet.k hH) rx fun s3 I3 => ⟨.bl _, H, I3, rfl, ?_⟩
      rw [valA_isSome rk]
      exact P _ _ _ _ (.bl _) g .refl q
  cases rb with
  | str z =>
    obtain ⟨c, rfl, q⟩ := r
    cases ra
    exact op_in_sign pins s σ H _ _ v u Q I rx ry ⟨c, z, rfl, rfl, P _ _ _ _ (.bl _) g .refl q⟩
  | _ => exact go r
theorem c_notin (hu : X.A.units + 1 < cLine) : OpR X (compareOp .NotIn) (lf2 X.K (inR true)) := by
  intro pins s σ H x y v u Q I rx ry ⟨a, b, A, Q', ra, rb, g, r, P⟩
  have go : ((∃ ys f fs, sqOf A b = some ys ∧ flA a = some f ∧ flAs ys = some fs ∧ Q' (.bl (if true then !inV f fs else inV f fs)) A) ∨
      ∃ kvs k, dcOf A b = some kvs ∧ keyA a = some k ∧ Q' (.bl (if true then !(valA kvs k).isSome else (valA kvs k).isSome)) A) → wpAny (model X.prog X.w) X.A (compareOp .NotIn v u) (EP X pins σ Q) X.xe s := by
    rintro (⟨ys, f, fs, h1, h2, h3, q⟩ | ⟨kvs, k, h1, h2, q⟩)
    · obtain ⟨p, vs, rfl, hs, rs⟩ := sqOf_ok rb g h1
      obtain ⟨e1, e2⟩ := flA_ok ra h2
      obtain ⟨e3, e4⟩ := flAs_ok rs h3
      refine op_notIn_seq pins s σ H _ _ v u Q I rx ry ⟨p, vs, rfl, hs, e2, e4, ?_⟩
      subst e1 e3
      exact P _ _ _ _ (.bl _) g .refl q
    · obtain ⟨p, vs, rfl, rfl, ha, hH, rk⟩ := dcOf_ok rb g h1
      have e1 := keyA_ok ra h2
      subst e1
      cases ry
      refine d_notIn hu I (DGet.k hH) rx fun s3 I3 => ⟨.bl _, H, I3, rfl, ?_⟩
      rw [valA_isSome rk]
      exact P _ _ _ _ (.bl _) g .refl q
  cases rb with
  | str z =>
    obtain ⟨c, rfl, q⟩ := r
    cases ra
    exact op_notIn_sign pins s σ H _ _ v u Q I rx ry ⟨c, z, rfl, rfl, P _ _ _ _ (.bl _) g .refl q⟩
  | _ => exact go r
end
end D

set_option Elab.async false
set_option linter.all false
set_option maxRecDepth 100000
namespace D
open PySem PySem.Spec L2
section
variable {X : Cx} {a b c e : Expr} {ta tb tc te : TEa} {pos : Pos}

/-! ### comparisons as values and tests -/
def aTest (t : TEa) : TTa := fun e A Q => t e A fun x A1 => ∃ k, x = .bl k ∧ Q k A1
theorem de_cmp {op : CmpOp} {r : RA2} (ho : OpR X (compareOp op) (lf2 X.K r)) (ha : DE X a ta) (hb : DE X b tb) (hm : behindInMarks op b = false) : DE X (.Compare a [op] [b] pos) (aOp r ta tb) :=
  pe_weak (pe_cmpR ho ha hb hm) fun σ H Q h => lf2_use h
theorem lft_use {K : PySem.W.Frag} {t : TEa} {σ : L2.St} {H : Hp} {Q : Bool → Hp → Prop} (h : lfT K (aTest t) σ H Q) : lfE K t σ H fun x H1 => ∃ k, x = .bl k ∧ Q k H1 := by
  obtain ⟨env, A, Q', re, g, q, P⟩ := h
  refine ⟨env, A, _, re, g, q, fun x A1 v H1 rx g1 s1 ⟨k, e, q1⟩ => ?_⟩
  subst e
  cases rx
  exact ⟨k, rfl, P _ _ _ _ rfl g1 s1 q1⟩
theorem dt_cmp {op : CmpOp} {r : RA2} (ho : OpR X (compareOp op) (lf2 X.K r)) (ha : DE X a ta) (hb : DE X b tb) (hm : behindInMarks op b = false) : DT X (.Compare a [op] [b] pos) (aTest (aOp r ta tb)) :=
  pt_weak (pt_cmpR ho ha hb hm) fun σ H Q h => lf2_use (lft_use h)
def aChain (r r' : RA2) (ta tb tc : TEa) : TEa := fun e A Q => ta e A fun x A1 => tb e A1 fun y A2 => r x y A2 fun z A3 => ∃ k, z = .bl k ∧ (if k = true then tc e A3 fun w A4 => r' y w A4 Q else Q (.bl false) A3)
theorem chain_use {K : PySem.W.Frag} {r r' : RA2} {ta tb tc : TEa} {σ : L2.St} {H : Hp} {Q : VK} (h : lfE K (aChain r r' ta tb tc) σ H Q) : tChain (lf2 K r) (lf2 K r') (lfE K ta) (lfE K tb) (lfE K tc) σ H Q := by
  obtain ⟨env, A, Q', re, g, q, P⟩ := h
  refine ⟨env, A, _, re, g, q, fun x A1 vx H1 rx g1 s1 q1 => ?_⟩
  refine ⟨env, A1, _, re.step s1, g1, q1, fun y A2 vy H2 ry g2 s2 q2 => ?_⟩
  refine ⟨x, y, A2, _, rx.step s2, ry, g2, q2, fun z A3 vz H3 rz g3 s3 ⟨k, ek, q3⟩ => ?_⟩
  subst ek
  cases rz
  refine ⟨k, rfl, ?_⟩
  have s13 := s1.trans (s2.trans s3)
  cases k with
  | false => exact P _ _ _ _ (.bl _) g3 s13 q3
  | true =>
    refine ⟨env, A3, _, re.step s13, g3, q3, fun w A4 vw H4 rw g4 s4 q4 => ?_⟩
    exact ⟨y, w, A4, Q', (ry.step s3).step s4, rw, g4, q4, P.trans (s13.trans s4)⟩
theorem de_chain {op op' : CmpOp} {r r' : RA2} (ho : OpR X (compareOp op) (lf2 X.K r)) (ho' : OpR X (compareOp op') (lf2 X.K r')) (ha : DE X a ta) (hb : DE X b tb) (hc : DE X c tc)
    (hm : lastMarks [op, op'] [b, c] = false := by with_unfolding_all rfl) : DE X (.Compare a [op, op'] [b, c] pos) (aChain r r' ta tb tc) :=
  pe_weak (pe_chain ho ho' ha hb hc hm) fun σ H Q h => chain_use h
theorem dt_chain {op op' : CmpOp} {r r' : RA2} (ho : OpR X (compareOp op) (lf2 X.K r)) (ho' : OpR X (compareOp op') (lf2 X.K r')) (ha : DE X a ta) (hb : DE X b tb) (hc : DE X c tc)
    (hm : lastMarks [op, op'] [b, c] = false := by with_unfolding_all rfl) : DT X (.Compare a [op, op'] [b, c] pos) (aTest (aChain r r' ta tb tc)) :=
  pt_weak (pt_chain ho ho' ha hb hc hm) fun σ H Q h => chain_use (lft_use h)

/-! ### truth -/
def truA (A : AHp) : AV → Option Bool
  | .non => some false
  | .bl b => some b
  | .int i => some (i != 0)
  | .tup xs => some !xs.isEmpty
  | .fl xs => some !xs.isEmpty
  | .kl xs => some !xs.isEmpty
  | .ref p => match A p with
    | some (.lst xs) => some !xs.isEmpty
    | some (.dct xs) => some !xs.isEmpty
    | _ => none
  | _ => none
theorem empty_reps {K : PySem.W.Frag} {H : Hp} {A : AHp} {xs : List AV} {vs : List V} (r : RepVs K H A xs vs) : (!vs.isEmpty) = !xs.isEmpty := by cases r <;> rfl
theorem truA_ok {K : PySem.W.Frag} {H : Hp} {A : AHp} {x : AV} {v : V} {k : Bool} (r : RepV K H A x v) (g : RH K A H) (h : truA A x = some k) : TruV K v H k := by
  cases r with
  | non => cases h; exact rfl
  | bl b => cases h; exact rfl
  | int b => cases h; exact rfl
  | str b => cases h
  | ty b => cases h
  | cgt _ _ _ => cases h
  | tup f rs => cases h; exact .inr (.inl ⟨_, f.sq, (empty_reps rs).symm⟩)
  | fl f rs => cases h; exact .inl ⟨_, .of f.1, (empty_reps rs).symm⟩
  | kl f rs => cases h; exact .inl ⟨_, f.sq, (empty_reps rs).symm⟩
  | ref p =>
    unfold truA at h
    cases e : A p with
    | none => simp only [e] at h; cases h
    | some o =>
      cases o with
      | dct ys =>
        simp only [e] at h
        cases h
        obtain ⟨u, h1, vs, rfl, h2⟩ := g p _ e
        exact .inr (.inr ⟨vs, h1, by cases h2 <;> rfl⟩)
      | lst ys =>
        simp only [e] at h
        cases h
        obtain ⟨u, h1, vs, rfl, h2⟩ := g p _ e
        exact .inl ⟨vs, .of h1, (empty_reps h2).symm⟩
def aTru (t : TEa) : TTa := fun e A Q => t e A fun x A1 => ∃ k, truA A1 x = some k ∧ Q k A1
theorem dt_tru (ha : DE X a ta) (he : ∀ whole, isTrue a X.env whole = (do let v ← whole; standAt a.pos; holding [v] (truthy v)) := by intro _; rfl) : DT X a (aTru ta) :=
  pt_weak (pt_truth ha he) fun σ H Q ⟨env, A, Q', re, g, q, P⟩ => ⟨env, A, _, re, g, q, fun x A1 v H1 rx g1 s1 ⟨k, e, q1⟩ => ⟨k, truA_ok rx g1 e, P _ _ _ _ rfl g1 s1 q1⟩⟩

/-! ### and, or, not, if .. else -/
variable {uA uB : TTa} {rest : List Expr}
def aAndT (t u : TTa) : TTa := fun e A Q => t e A fun c A1 => if c = true then u e A1 Q else Q false A1
def aOrT (t u : TTa) : TTa := fun e A Q => t e A fun c A1 => if c = true then Q true A1 else u e A1 Q
def aNotT (t : TTa) : TTa := fun e A Q => t e A fun c A1 => Q (!c) A1
theorem dw_and1 (ha : DT X a uA) : DW X (.BoolOp .And [a] pos) uA := pw_and1 ha
theorem dw_or1 (ha : DT X a uA) : DW X (.BoolOp .Or [a] pos) uA := pw_or1 ha
theorem dw_and (ha : DT X a uA) (hb : DW X (.BoolOp .And (b :: rest) pos) uB) : DW X (.BoolOp .And (a :: b :: rest) pos) (aAndT uA uB) :=
  pw_weak (pw_and ha hb) fun σ H Q ⟨env, A, Q', re, g, q, P⟩ => ⟨env, A, _, re, g, q, fun c A1 c' H1 hc g1 s1 q1 => by
    subst hc
    cases c with
    | true => exact ⟨env, A1, Q', re.step s1, g1, q1, P.trans s1⟩
    | false => exact P _ _ _ _ rfl g1 s1 q1⟩
theorem dw_or (ha : DT X a uA) (hb : DW X (.BoolOp .Or (b :: rest) pos) uB) : DW X (.BoolOp .Or (a :: b :: rest) pos) (aOrT uA uB) :=
  pw_weak (pw_or ha hb) fun σ H Q ⟨env, A, Q', re, g, q, P⟩ => ⟨env, A, _, re, g, q, fun c A1 c' H1 hc g1 s1 q1 => by
    subst hc
    cases c with
    | false => exact ⟨env, A1, Q', re.step s1, g1, q1, P.trans s1⟩
    | true => exact P _ _ _ _ rfl g1 s1 q1⟩
theorem DW.dt (h : DW X a uA) : DT X a uA := PW.pt h
theorem dt_not (ha : DT X a uA) : DT X (.UnaryOp .Not a pos) (aNotT uA) :=
  pt_weak (pt_not ha) fun σ H Q ⟨env, A, Q', re, g, q, P⟩ => ⟨env, A, _, re, g, q, fun c A1 c' H1 hc g1 s1 q1 => by
    subst hc
    exact P _ _ _ _ rfl g1 s1 q1⟩
def aAnd (ta tb : TEa) : TEa := fun e A Q => ta e A fun x A1 => ∃ c, x = .bl c ∧ if c = true then tb e A1 Q else Q (.bl false) A1
def aOr (ta tb : TEa) : TEa := fun e A Q => ta e A fun x A1 => ∃ c, x = .bl c ∧ if c = true then Q (.bl true) A1 else tb e A1 Q
def aNot (ta : TEa) : TEa := fun e A Q => ta e A fun x A1 => ∃ c, truA A1 x = some c ∧ Q (.bl (!c)) A1
theorem de_one {op : BoolOp} (ha : DE X a ta) : DE X (.BoolOp op [a] pos) ta := pe_one ha
theorem de_and (ha : DE X a ta) (hb : DE X (.BoolOp .And (b :: rest) pos) tb) : DE X (.BoolOp .And (a :: b :: rest) pos) (aAnd ta tb) :=
  pe_weak (pe_and ha hb) fun σ H Q ⟨env, A, Q', re, g, q, P⟩ => ⟨env, A, _, re, g, q, fun x A1 v H1 rx g1 s1 ⟨c, hc, q1⟩ => by
    subst hc
    cases rx
    refine ⟨c, rfl, ?_⟩
    cases c with
    | true => exact ⟨env, A1, Q', re.step s1, g1, q1, P.trans s1⟩
    | false => exact P _ _ _ _ (.bl _) g1 s1 q1⟩
theorem de_or (ha : DE X a ta) (hb : DE X (.BoolOp .Or (b :: rest) pos) tb) : DE X (.BoolOp .Or (a :: b :: rest) pos) (aOr ta tb) :=
  pe_weak (pe_or ha hb) fun σ H Q ⟨env, A, Q', re, g, q, P⟩ => ⟨env, A, _, re, g, q, fun x A1 v H1 rx g1 s1 ⟨c, hc, q1⟩ => by
    subst hc
    cases rx
    refine ⟨c, rfl, ?_⟩
    cases c with
    | false => exact ⟨env, A1, Q', re.step s1, g1, q1, P.trans s1⟩
    | true => exact P _ _ _ _ (.bl _) g1 s1 q1⟩
theorem de_not (ha : DE X a ta) : DE X (.UnaryOp .Not a pos) (aNot ta) :=
  pe_weak (pe_notT ha) fun σ H Q ⟨env, A, Q', re, g, q, P⟩ => ⟨env, A, _, re, g, q, fun x A1 v H1 rx g1 s1 ⟨c, hc, q1⟩ => ⟨c, truA_ok rx g1 hc, P _ _ _ _ (.bl _) g1 s1 q1⟩⟩
def aIf (t : TTa) (ta tb : TEa) : TEa := fun e A Q => t e A fun c A1 => if c = true then ta e A1 Q else tb e A1 Q
theorem de_if (hc : DT X c uA) (ha : DE X a ta) (hb : DE X b tb) : DE X (.IfExp c a b pos) (aIf uA ta tb) :=
  pe_weak (pe_ifExp hc ha hb) fun σ H Q ⟨env, A, Q', re, g, q, P⟩ => ⟨env, A, _, re, g, q, fun k A1 k' H1 hk g1 s1 q1 => by
    subst hk
    cases k with
    | true => exact ⟨env, A1, Q', re.step s1, g1, q1, P.trans s1⟩
    | false => exact ⟨env, A1, Q', re.step s1, g1, q1, P.trans s1⟩⟩
/-- -x -/
def aNeg (ta : TEa) : TEa := fun e A Q => ta e A fun x A1 => ∃ i, x = .int i ∧ Q (.int (-i)) A1
theorem de_neg (ha : DE X a ta) : DE X (.UnaryOp .USub a pos) (aNeg ta) :=
  pe_weak (pe_un un_neg ha) fun σ H Q ⟨env, A, Q', re, g, q, P⟩ => ⟨env, A, _, re, g, q, fun x A1 v H1 rx g1 s1 ⟨i, hc, q1⟩ => by
    subst hc
    cases rx
    exact ⟨i, rfl, P _ _ _ _ (.int _) g1 s1 q1⟩⟩
/-- is None, is not None -/
def isNR (neg : Bool) : RA2 := fun x y A Q => y = .non ∧ Q (.bl (match x with | .non => !neg | _ => neg)) A
theorem c_is : OpR X (compareOp .Is) (lf2 X.K (isNR false)) := by
  intro pins s σ H x y v u Q I rx ry ⟨a, b, A, Q', ra, rb, g, ⟨hb, q⟩, P⟩
  subst hb
  cases rb
  refine op_isN pins s σ H _ _ v u Q I rx ry ⟨rfl, ?_⟩
  cases ra <;> exact P _ _ _ _ (.bl _) g .refl q

/-! ### arguments, displays -/
def aNil : TAa := fun _ A Q => Q [] A
def aCons (ta : TEa) (tr : TAa) : TAa := fun e A Q => ta e A fun x A1 => tr e A1 fun xs A2 => Q (x :: xs) A2
variable {es : List Expr} {tr : TAa}
theorem da_nil : DA X [] aNil := pa_weak pa_nil fun σ H Q ⟨env, A, Q', re, g, q, P⟩ => P _ _ _ _ .nil g .refl q
theorem da_cons (ha : DE X e te) (hr : DA X es tr) (hs : starEach (e :: es) X.env = (false, eval e X.env) :: starEach es X.env := by rfl) : DA X (e :: es) (aCons te tr) :=
  pa_weak (pa_cons ha hr hs) fun σ H Q ⟨env, A, Q', re, g, q, P⟩ => ⟨env, A, _, re, g, q, fun x A1 v H1 rx g1 s1 q1 =>
    ⟨env, A1, _, re.step s1, g1, q1, fun xs A2 vs H2 rs g2 s2 q2 => P _ _ _ _ (.cons (rx.step s2) rs) g2 (s1.trans s2) q2⟩⟩
def aTup (t : TAa) : TEa := fun e A Q => t e A fun xs A1 => xs.length ≤ sizeLine ∧ Q (.tup xs) A1
def aFl (t : TAa) : TEa := fun e A Q => t e A fun xs A1 => xs.length ≤ sizeLine ∧ Q (.fl xs) A1
def aLst (t : TAa) : TEa := fun e A Q => t e A fun xs A1 => xs.length ≤ sizeLine ∧ ∀ p, A1 p = none → Q (.ref p) (updA A1 p (.lst xs))
theorem post_tup {K : PySem.W.Frag} {A A1 : AHp} {H H1 : Hp} {Q' : AV → AHp → Prop} {Q : VK} {xs : List AV} {vs : List V} {p : Addr} (P : Post K (RepV K) A H Q' Q) (s : Step A H A1 H1) (g : RH K A1 H1) (rs : RepVs K H1 A1 xs vs) (hp : H1 p = none) (q : Q' (.tup xs) A1) : Q (.ref p) (upd H1 p (.tup vs)) :=
  new_tup (AH' := A1) (P.trans s) g hp rs q
theorem de_tup {x1} (h : DA X es tr) : DE X (.Tuple es x1 pos) (aTup tr) :=
  pe_weak (pe_tup h) fun σ H Q ⟨env, A, Q', re, g, q, P⟩ => ⟨env, A, _, re, g, q, fun xs A1 vs H1 rs g1 s1 ⟨hl, q1⟩ => ⟨by rw [← rs.length]; exact hl, fun p hp => new_tup (AH' := A1) (P.trans s1) g1 hp rs q1⟩⟩
theorem de_fl (h : DA X es tr) : DE X (.List es pos) (aFl tr) :=
  pe_weak (pe_lst h) fun σ H Q ⟨env, A, Q', re, g, q, P⟩ => ⟨env, A, _, re, g, q, fun xs A1 vs H1 rs g1 s1 ⟨hl, q1⟩ => ⟨by rw [← rs.length]; exact hl, fun p hp => new_fl (P.trans s1) g1 hp rs q1⟩⟩
theorem de_lst (h : DA X es tr) : DE X (.List es pos) (aLst tr) :=
  pe_weak (pe_lst h) fun σ H Q ⟨env, A, Q', re, g, q, P⟩ => ⟨env, A, _, re, g, q, fun xs A1 vs H1 rs g1 s1 ⟨hl, q1⟩ => ⟨by rw [← rs.length]; exact hl, fun p hp => new_lst (P.trans s1) g1 hp rs (q1 p (g1.noneA hp))⟩⟩
/-- {} -/
def aDct0 : TEa := fun _ A Q => ∀ p, A p = none → Q (.ref p) (updA A p (.dct []))
theorem de_dct0 : DE X (.Dict [] [] pos) aDct0 :=
  pe_weak pe_dnewK fun σ H Q ⟨env, A, Q', re, g, q, P⟩ p hp => P _ _ _ _ (.ref p) (g.new hp (show RepO X.K H A (.dct []) (.dK []) from ⟨[], rfl, .nil⟩)) (Step.new hp) (q p (g.noneA hp))

/-! ### subscripts -/
def gtR0 (A : AHp) (x y : AV) : Option AV := match x, y with
  | .str z, .int i => if z.length ≤ sizeLine then (atI z.cps.toList i).map fun c => .str ⟨#[c]⟩ else none
  | x, .int i => match sqOf A x with
    | some xs => atI xs i
    | none => (dcOf A x).bind fun kvs => valA kvs (.inl i)
  | x, .str z => (dcOf A x).bind fun kvs => valA kvs (.inr z)
  | _, _ => none
def ixR : RA2 := fun x y A Q => ∃ v, gtR0 A x y = some v ∧ Q v A
theorem atI_reps {K : PySem.W.Frag} {H : Hp} {A : AHp} {xs : List AV} {vs : List V} {i : Int} {a : AV} (r : RepVs K H A xs vs) (h : atI xs i = some a) : ∃ v, atI vs i = some v ∧ RepV K H A a v := by
  unfold atI at h ⊢
  rw [← r.length]
  cases e : ixN xs.length i with
  | none => rw [e] at h; cases h
  | some j => rw [e] at h; exact r.get h
/-- what d[y] is of a dict, as a subscript by values -/
theorem ix_dict (hu : X.A.units + 1 < cLine) : IxR X (fun x y H Q => ∃ a v, x = .ref a ∧ DGet H a y (some v) ∧ Q v H) := by
  intro value slice pins s σ H x y v u Q I rx ry ⟨a, w, e, g, q⟩ hs
  subst e
  obtain rfl : v = Value.ref a := rx
  exact PyProof.Rows.tail_any (dict_typeIs I g) PySem.F.slot_dict_getitem.lookup (d_getItem hu I g ry fun w' s' I' rw => ⟨w, H, I', rw, q⟩) hs
theorem ixR_or {r r' : R2} (h : IxR X r) (h' : IxR X r') : IxR X (fun x y H Q => r x y H Q ∨ r' x y H Q) := IxR.or h h'
theorem ix_weak {r r' : R2} (h : IxR X r) (w : ∀ x y H Q, r' x y H Q → r x y H Q) : IxR X r' := fun value slice pins s σ H x y v u Q I rx ry q hs => h value slice pins s σ H x y v u Q I rx ry (w _ _ _ _ q) hs
theorem valA_get {K : PySem.W.Frag} {H : Hp} {A : AHp} {kvs : List (Key × AV)} {vs : List (Key × V)} {k : Key} {a : AV} (r : RepKV K H A kvs vs) (h : valA kvs k = some a) : ∃ v, valV vs k = some v ∧ RepV K H A a v := by
  have q := valA_ok (k := k) r
  rw [h] at q
  cases e : valV vs k with
  | none => rw [e] at q; exact q.elim
  | some v => rw [e] at q; exact ⟨v, rfl, q⟩
theorem ix_all (hu : X.A.units + 1 < cLine) : IxR X (lf2 X.K ixR) := by
  refine ix_weak (ix_seq.or (ix_dict hu)) fun x y H Q ⟨a, b, A, Q', ra, rb, g, ⟨v, h, q⟩, P⟩ => ?_
  have dct : ∀ {k : Key}, y = kV k → ((dcOf A a).bind fun kvs => valA kvs k) = some v → ∃ a v, x = .ref a ∧ DGet H a y (some v) ∧ Q v H := fun {k} ey e => by
    obtain ⟨kvs, e1, e2⟩ := Option.bind_eq_some_iff.mp e
    obtain ⟨p, vs, rfl, rfl, hA, hH, rk⟩ := dcOf_ok ra g e1
    obtain ⟨w, h1, h2⟩ := valA_get rk e2
    subst ey
    exact ⟨p, w, rfl, by rw [← h1]; exact DGet.k hH, P _ _ _ _ h2 g .refl q⟩
  cases rb with
  | int i =>
    cases ra with
    | str z =>
      simp only [gtR0] at h
      split at h
      · obtain ⟨c, h1, rfl⟩ := Option.map_eq_some_iff.mp h
        exact .inl (.inr (.inr ⟨z, i, c, rfl, rfl, by assumption, h1, P _ _ _ _ (.str _) g .refl q⟩))
      · cases h
    | tup f rs =>
      simp only [gtR0, sqOf] at h
      obtain ⟨w, h1, h2⟩ := atI_reps rs h
      exact .inl (.inr (.inl ⟨_, _, i, w, rfl, rfl, f.sq, h1, P _ _ _ _ h2 g .refl q⟩))
    | fl f rs =>
      simp only [gtR0, sqOf, lsOf] at h
      obtain ⟨w, h1, h2⟩ := atI_reps rs h
      exact .inl (.inl ⟨_, _, i, w, rfl, rfl, .of f.1, h1, P _ _ _ _ h2 g .refl q⟩)
    | kl f rs =>
      simp only [gtR0, sqOf, lsOf] at h
      obtain ⟨w, h1, h2⟩ := atI_reps rs h
      exact .inl (.inl ⟨_, _, i, w, rfl, rfl, f.sq, h1, P _ _ _ _ h2 g .refl q⟩)
    | ref p =>
      simp only [gtR0] at h
      cases e : sqOf A (.ref p) with
      | none =>
        simp only [e] at h
        exact .inr (dct (k := .inl i) rfl h)
      | some xs =>
        simp only [e] at h
        obtain ⟨p2, vs, e2, hs, rs⟩ := lsOf_ok (.ref p) g e
        cases e2
        obtain ⟨w, h1, h2⟩ := atI_reps rs h
        exact .inl (.inl ⟨_, _, i, w, rfl, rfl, hs, h1, P _ _ _ _ h2 g .refl q⟩)
    | _ => simp [gtR0, sqOf, lsOf, dcOf] at h
  | str z =>
    cases ra with
    | ref p =>
      simp only [gtR0] at h
      exact .inr (dct (k := .inr z) rfl h)
    | _ => simp [gtR0, dcOf] at h
  | _ => cases ra <;> simp [gtR0] at h
theorem de_ix (hu : X.A.units + 1 < cLine) (ha : DE X a ta) (hb : DE X b tb) (hs : PlainIx b) : DE X (.Subscript a b pos) (aOp ixR ta tb) :=
  pe_weak (pe_ix (ix_all hu) ha hb hs) fun σ H Q h => lf2_use h

/-! ### slices -/
abbrev TOa := AEnv → AHp → (Option Int → AHp → Prop) → Prop
abbrev lfO (K : PySem.W.Frag) (t : TOa) : TO := Lf K (fun _ _ a b => a = b) t
abbrev DO (X : Cx) (e : Option Expr) (t : TOa) : Prop := PO X e (lfO X.K t)
def aNoPart : TOa := fun _ A Q => Q none A
def aPart (t : TEa) : TOa := fun e A Q => t e A fun x A1 => ∃ i, x = .int i ∧ Q (some i) A1
theorem po_weak {e : Option Expr} {t u : TO} (h : PO X e t) (w : ∀ σ H Q, u σ H Q → t σ H Q) : PO X e u := ⟨fun p s σ H Q I q => h.run p s σ H Q I (w _ _ _ q)⟩
theorem do_none : DO X none aNoPart := po_weak po_none fun σ H Q ⟨env, A, Q', re, g, q, P⟩ => P _ _ _ _ rfl g .refl q
theorem do_some (ha : DE X e te) : DO X (some e) (aPart te) := po_weak (po_some ha) fun σ H Q ⟨env, A, Q', re, g, q, P⟩ =>
  ⟨env, A, _, re, g, q, fun x A1 v H1 rx g1 s1 ⟨i, hc, q1⟩ => by subst hc; cases rx; exact ⟨i, rfl, P _ _ _ _ rfl g1 s1 q1⟩⟩
def cutA (xs : List AV) (lo hi : Option Int) : List AV := (xs.drop (HT.sIx xs.length 0 lo)).take (HT.sIx xs.length xs.length hi - HT.sIx xs.length 0 lo)
theorem cut_reps {K : PySem.W.Frag} {H : Hp} {A : AHp} {xs : List AV} {vs : List V} {lo hi : Option Int} (r : RepVs K H A xs vs) : RepVs K H A (cutA xs lo hi) (cutV vs lo hi) := by
  unfold cutA cutV
  rw [r.length]
  exact (r.drop _).take _
/-- x[lo:hi], the list made stays as it is -/
def slR (x : AV) (lo hi : Option Int) (A : AHp) (Q : AV → AHp → Prop) : Prop := match x with
  | .tup xs => Q (.tup (cutA xs lo hi)) A
  | x => ∃ xs, lsOf A x = some xs ∧ Q (.fl (cutA xs lo hi)) A
/-- .. may change -/
def slM (x : AV) (lo hi : Option Int) (A : AHp) (Q : AV → AHp → Prop) : Prop := ∃ xs, lsOf A x = some xs ∧ ∀ p, A p = none → Q (.ref p) (updA A p (.lst (cutA xs lo hi)))
def lfSl (K : PySem.W.Frag) (r : AV → Option Int → Option Int → AHp → (AV → AHp → Prop) → Prop) : V → Option Int → Option Int → Hp → VK → Prop :=
  fun x lo hi H Q => ∃ a A Q', RepV K H A a x ∧ RH K A H ∧ r a lo hi A Q' ∧ Post K (RepV K) A H Q' Q
theorem slR_weak {r r' : V → Option Int → Option Int → Hp → VK → Prop} (h : SlR X r) (w : ∀ x lo hi H Q, r' x lo hi H Q → r x lo hi H Q) : SlR X r' := by
  intro pins s σ H x v vl vu lo hi sl Q I rx hs pl pu q
  exact h pins s σ H x v vl vu lo hi sl Q I rx hs pl pu (w _ _ _ _ _ q)
theorem whole_cut {xs : List AV} {lo hi : Option Int} (h : HT.sIx xs.length 0 lo = 0 ∧ HT.sIx xs.length xs.length hi = xs.length) : cutA xs lo hi = xs := by
  unfold cutA
  rw [h.1, h.2, List.drop_zero, Nat.sub_zero, List.take_length]
theorem sl_all : SlR X (lfSl X.K slR) := by
  refine slR_weak (sl_tupA.or sl_list) fun x lo hi H Q ⟨a, A, Q', ra, g, r, P⟩ => ?_
  have ls : (∃ xs, lsOf A a = some xs ∧ Q' (.fl (cutA xs lo hi)) A) → rSlL X.K x lo hi H Q := fun ⟨xs, e, q⟩ => by
    obtain ⟨p, vs, e2, hs, rs⟩ := lsOf_ok ra g e
    exact ⟨p, vs, e2, hs, fun l hl => new_fl P g hl (cut_reps rs) q⟩
  cases ra with
  | tup f rs =>
    refine .inl ⟨_, _, rfl, f.sq, fun hw => ?_, fun _ l hl => new_tup (AH' := A) P g hl (cut_reps rs) r⟩
    rw [← rs.length] at hw
    have r2 : Q' (.tup _) A := r
    rw [whole_cut hw] at r2
    exact P _ _ _ _ (.tup f rs) g .refl r2
  | _ => exact .inr (ls r)
theorem sl_mut : SlR X (lfSl X.K slM) := by
  refine slR_weak sl_list fun x lo hi H Q ⟨a, A, Q', ra, g, ⟨xs, e, q⟩, P⟩ => ?_
  obtain ⟨p, vs, e2, hs, rs⟩ := lsOf_ok ra g e
  exact ⟨p, vs, e2, hs, fun l hl => new_lst P g hl (cut_reps rs) (q l (g.noneA hl))⟩
def aSl (r : AV → Option Int → Option Int → AHp → (AV → AHp → Prop) → Prop) (te : TEa) (tl th : TOa) : TEa := fun e A Q => te e A fun x A1 => tl e A1 fun l A2 => th e A2 fun u A3 => r x l u A3 Q
variable {lo hi : Option Expr} {tl th : TOa} {p2 : Pos} {r : AV → Option Int → Option Int → AHp → (AV → AHp → Prop) → Prop}
theorem de_slice (hr : SlR X (lfSl X.K r)) (he : DE X e te) (hl : DO X lo tl) (hh : DO X hi th) : DE X (.Subscript e (.Slice lo hi none p2) pos) (aSl r te tl th) :=
  pe_weak (pe_slice hr he hl hh) fun σ H Q ⟨env, A, Q', re, g, q, P⟩ => ⟨env, A, _, re, g, q, fun x A1 v H1 rx g1 s1 q1 =>
    ⟨env, A1, _, re.step s1, g1, q1, fun l A2 l' H2 hl g2 s2 q2 => by
      subst hl
      refine ⟨env, A2, _, (re.step s1).step s2, g2, q2, fun u A3 u' H3 hu g3 s3 q3 => ?_⟩
      subst hu
      exact ⟨x, A3, Q', (rx.step s2).step s3, g3, q3, P.trans (s1.trans (s2.trans s3))⟩⟩⟩
end

/-! ### what a def promises -/
/-- the abstract promise of a def that raises nothing -/
abbrev Spa := List AV → AHp → (AV → AHp → Prop) → Prop
def lfSp (K : PySem.W.Frag) (sp : Spa) : Sp := fun vs H Q _ => ∃ as A Q', RepVs K H A as vs ∧ RH K A H ∧ sp as A Q' ∧ Post K (RepV K) A H Q' Q
/-- .. of a def that may raise: what is wanted of the end, and of an exception -/
abbrev Spx := List AV → AHp → (AV → AHp → Prop) → (AV → AHp → Prop) → Prop
def PostX (K : PySem.W.Frag) (mg : Str → Option Value) (AH : AHp) (H : Hp) (E' : AV → AHp → Prop) (E : XK) : Prop := ∀ x cls d A' H', RepX K mg H' A' x cls d → RH K A' H' → Step AH H A' H' → E' x A' → E cls d H'
theorem PostX.trans {K : PySem.W.Frag} {mg : Str → Option Value} {AH A1 : AHp} {H H1 : Hp} {E' : AV → AHp → Prop} {E : XK} (s : Step AH H A1 H1) (p : PostX K mg AH H E' E) : PostX K mg A1 H1 E' E :=
  fun x c d A2 H2 rx g st q => p x c d A2 H2 rx g (s.trans st) q
def lfSpX (K : PySem.W.Frag) (mg : Str → Option Value) (sp : Spx) : Sp := fun vs H Q E => ∃ as A Q' E', RepVs K H A as vs ∧ RH K A H ∧ sp as A Q' E' ∧ Post K (RepV K) A H Q' Q ∧ PostX K mg A H E' E
/-- room, and nothing is being written out -/
structure RoomG (k : Nat) (A : Around) : Prop extends Room k A where
  gd : A.guards = some []
theorem RoomG.less {j k : Nat} {A : Around} (r : RoomG k A) (h : j ≤ k) : RoomG j A := ⟨r.toRoom.mono h, r.gd⟩
theorem RoomG.down {k : Nat} {A : Around} (r : RoomG (k + 1) A) (env : Env) : RoomG k (A.deeper env) := ⟨r.toRoom.deeper env, r.gd⟩
/-- a def keeps its promise, where nothing is being written out -/
structure FnG (P : Program) (w : World) (K : PySem.W.Frag) (mg : Str → Option Value) (base : Heap) (k : Nat) (f : Addr) (fd : FuncData) (ps : List Str) (sp : Sp) : Prop where
  ln : ∀ vs H Q E, sp vs H Q E → vs.length = ps.length
  rn : ∀ (A : Around) (ot : List Env) (s : Shared) (H : Hp) (ar : Args) (us : List Value) (vs : List V) (Q : VK) (E : XK), RoomG k A → Env0 P w K mg base A ot s H → BindsTo s fd ar (ps.zip us) → Vals vs us → sp vs H Q E →
    codeAny (model P w) A (.call (.ref f) ar) (CR (L2.CX P w) ot P w H s Q E) s
theorem FnG.less {P : Program} {w : World} {K : PySem.W.Frag} {mg : Str → Option Value} {base : Heap} {j k : Nat} {f : Addr} {fd : FuncData} {ps : List Str} {sp : Sp} (F : FnG P w K mg base j f fd ps sp) (h : j ≤ k) : FnG P w K mg base k f fd ps sp :=
  ⟨F.ln, fun A ot s H ar us vs Q E hr => F.rn A ot s H ar us vs Q E (hr.less h)⟩
/-- a weaker promise will do -/
theorem FnG.weak {P : Program} {w : World} {K : PySem.W.Frag} {mg : Str → Option Value} {base : Heap} {k : Nat} {f : Addr} {fd : FuncData} {ps : List Str} {sp sp' : Sp} (F : FnG P w K mg base k f fd ps sp) (h : ∀ vs H Q E, sp' vs H Q E → sp vs H Q E) : FnG P w K mg base k f fd ps sp' :=
  ⟨fun vs H Q E q => F.ln vs H Q E (h _ _ _ _ q), fun A ot s H ar us vs Q E hr he hb hv hs => F.rn A ot s H ar us vs Q E hr he hb hv (h _ _ _ _ hs)⟩
section
variable {X : Cx} {k : Nat} {f : Addr} {fd : FuncData} {ps : List Str} {sp : Spa} {spc : Sp} {x : Str} {p pos : Pos} {e : Expr} {es : List Expr} {t : TAa} {tc : TA}
theorem FnG.go {pins : List (Addr × Obj)} {σ : L2.St} {H : Hp} {s : Shared} {Q : VK} {E : XK} {us : List Value} {vs : List V} (F : FnG X.prog X.w X.K X.mg X.base k f fd ps spc) (hr : RoomG k X.A) (hb : Binds X.K fd ps [])
    (I : Inv X pins σ H s) (r : Vals vs us) (hx : ∀ e s', L2.CX X.prog X.w X.stack H s E e s' → X.xe e s') (h : spc vs H Q E) : wpAny (model X.prog X.w) X.A (call (.ref f) us) (EP X pins σ Q) X.xe s := by
  have n2 : (us ++ []).length = ps.length := by rw [List.append_nil, ← r.length]; exact F.ln _ _ _ _ h
  have b := hb s us I.kIn n2
  rw [List.append_nil] at b
  refine wpAny_call (codeAny_mono (F.rn X.A X.stack s H ⟨us, []⟩ us vs Q E hr I.env0 b r h) fun z s' hq => ?_)
  cases z with
  | error er => exact hx er s' hq
  | ok fl =>
    cases fl <;> first | exact I.after hq | exact False.elim hq
/-- a call whose exceptions are as E tells, by the slots -/
def tGo (spc : Sp) (E : L2.St → XK) (tc : TA) : TE := fun σ H Q => tc σ H fun vs H1 => spc vs H1 Q (E σ)
theorem pe_go {E : L2.St → XK} (F : FnG X.prog X.w X.K X.mg X.base k f fd ps spc) (hr : RoomG k X.A) (hg : Gl X x) (hm : X.mg x = some (.ref f)) (hk : PySem.W.keepIn X.K (.ref f) = true) (hb : Binds X.K fd ps []) (hx : ∀ σ, PassesAt (L2.CX X.prog X.w) X σ (E σ))
    (ha : PA X (e :: es) tc) (hdb : (x == ("__debug__" : Str)) = false := by decide) (he : starEach (e :: es) X.env = (false, eval e X.env) :: starEach es X.env := by rfl) (hpl : (backTo pos (starEach es X.env)).any (·.1) = false := by rfl) :
    PE X (.Call (.Name x p) (e :: es) [] pos) (tGo spc E tc) := by
  refine ⟨fun pins s σ H Q I h => wpAny_Call_Name_kw (ld_glob I hg hm ?_ hdb)⟩
  exact PySem.W.callWith_K (h₀ := X.base) I.ok.mod.kin hk (thn (ha.run pos pins s σ H _ I h) fun us s1 ⟨vs, H1, I1, r, q⟩ => ⟨I1.kIn, F.go hr hb I1 r (fun er s' c => hx σ pins H1 s1 er s' I1 c) q⟩) he hpl
theorem passE0 (σ : L2.St) : PassesAt (L2.CX X.prog X.w) X σ E0 := fun _ _ _ _ _ _ h => by
  obtain ⟨_, _, _, _, _, _, _, _, _, _, _, _, z⟩ := h
  exact z.elim
def aCall (sp : Spa) (t : TAa) : TEa := fun e A Q => t e A fun vs A1 => sp vs A1 Q
theorem de_call (F : FnG X.prog X.w X.K X.mg X.base k f fd ps (lfSp X.K sp)) (hr : RoomG k X.A) (hg : Gl X x) (hm : X.mg x = some (.ref f)) (hk : PySem.W.keepIn X.K (.ref f) = true) (hb : Binds X.K fd ps [])
    (ha : DA X (e :: es) t) (hdb : (x == ("__debug__" : Str)) = false := by decide) (he : starEach (e :: es) X.env = (false, eval e X.env) :: starEach es X.env := by rfl) (hpl : (backTo pos (starEach es X.env)).any (·.1) = false := by rfl) :
    DE X (.Call (.Name x p) (e :: es) [] pos) (aCall sp t) :=
  pe_weak (pe_go (E := fun _ => E0) F hr hg hm hk hb passE0 ha hdb he hpl) fun σ H Q ⟨env, A, Q', re, g, q, P⟩ => ⟨env, A, _, re, g, q, fun as A1 vs H1 rs g1 s1 q1 => ⟨as, A1, Q', rs, g1, q1, P.trans s1⟩⟩

/-! ### built-ins called by their names -/
abbrev RCa := List AV → AHp → (AV → AHp → Prop) → Prop
def lfC (K : PySem.W.Frag) (r : RCa) : List V → Hp → VK → Prop := fun vs H Q => ∃ as A Q', RepVs K H A as vs ∧ RH K A H ∧ r as A Q' ∧ Post K (RepV K) A H Q' Q
def aCB (r : RCa) (t : TAa) : TEa := fun e A Q => t e A fun vs A1 => r vs A1 Q
variable {r : RCa} {id T : String}
theorem de_callB (hc : CallR X (.builtin id) (lfC X.K r)) (hg : Gl X x) (hm : X.mg x = none) (hv : bootBuiltins x = some (.builtin id)) (ha : DA X (e :: es) t) (hn : x ≠ "__name__" := by decide) (hdb : (x == ("__debug__" : Str)) = false := by decide)
    (he : starEach (e :: es) X.env = (false, eval e X.env) :: starEach es X.env := by rfl) (hpl : (backTo pos (starEach es X.env)).any (·.1) = false := by rfl) : DE X (.Call (.Name x p) (e :: es) [] pos) (aCB r t) :=
  pe_weak (pe_callB hc hg hm hv ha hn hdb he hpl) fun σ H Q ⟨env, A, Q', re, g, q, P⟩ => ⟨env, A, _, re, g, q, fun as A1 vs H1 rs g1 s1 q1 => ⟨as, A1, Q', rs, g1, q1, P.trans s1⟩⟩
theorem de_callT (hc : CallR X (.type T) (lfC X.K r)) (hg : Gl X x) (hm : X.mg x = none) (hv : bootBuiltins x = some (.type T)) (ha : DA X (e :: es) t) (hn : x ≠ "__name__" := by decide) (hdb : (x == ("__debug__" : Str)) = false := by decide)
    (he : starEach (e :: es) X.env = (false, eval e X.env) :: starEach es X.env := by rfl) (hpl : (backTo pos (starEach es X.env)).any (·.1) = false := by rfl) : DE X (.Call (.Name x p) (e :: es) [] pos) (aCB r t) :=
  pe_weak (pe_callTy hc hg hm hv ha hn hdb he hpl) fun σ H Q ⟨env, A, Q', re, g, q, P⟩ => ⟨env, A, _, re, g, q, fun as A1 vs H1 rs g1 s1 q1 => ⟨as, A1, Q', rs, g1, q1, P.trans s1⟩⟩
theorem callR_weak {f : Value} {r r' : List V → Hp → VK → Prop} (h : CallR X f r) (w : ∀ xs H Q, r' xs H Q → r xs H Q) : CallR X f r' := fun pins s σ H xs us Q I rs q => h pins s σ H xs us Q I rs (w _ _ _ q)
theorem reps1 {K : PySem.W.Frag} {H : Hp} {A : AHp} {a : AV} {vs : List V} (h : RepVs K H A [a] vs) : ∃ v, vs = [v] ∧ RepV K H A a v := by
  cases h with | cons r t => cases t; exact ⟨_, rfl, r⟩
theorem reps2 {K : PySem.W.Frag} {H : Hp} {A : AHp} {a b : AV} {vs : List V} (h : RepVs K H A [a, b] vs) : ∃ v w, vs = [v, w] ∧ RepV K H A a v ∧ RepV K H A b w := by
  cases h with | cons r t => cases t with | cons r2 t => cases t; exact ⟨_, _, rfl, r, r2⟩
theorem reps3 {K : PySem.W.Frag} {H : Hp} {A : AHp} {a b c : AV} {vs : List V} (h : RepVs K H A [a, b, c] vs) : ∃ v w u, vs = [v, w, u] ∧ RepV K H A a v ∧ RepV K H A b w ∧ RepV K H A c u := by
  cases h with | cons r t => cases t with | cons r2 t => cases t with | cons r3 t => cases t; exact ⟨_, _, _, rfl, r, r2, r3⟩
def lenA (A : AHp) (x : AV) : Option Nat := match x with
  | .str z => if z.length ≤ sizeLine then some z.length else none
  | x => match sqOf A x with
    | some xs => some xs.length
    | none => (dcOf A x).map (·.length)
def bLen : RCa := fun as A Q => ∃ x n, as = [x] ∧ lenA A x = some n ∧ Q (.int (n : Nat)) A
theorem b_len : CallR X (.builtin "len") (lfC X.K bLen) := by
  refine callR_weak (call_len.or call_lenD) fun vs H Q ⟨as, A, Q', rs, g, ⟨x, n, e, h, q⟩, P⟩ => ?_
  subst e
  obtain ⟨v, rfl, rv⟩ := reps1 rs
  have fin : Q (.int (n : Nat)) H := P _ _ _ _ (.int _) g .refl q
  have sq : ∀ {xs : List AV}, sqOf A x = some xs → n = xs.length → LenV X.K v H n := fun {xs} e1 e2 => by
    obtain ⟨p, vs, rfl, hs, rs⟩ := sqOf_ok rv g e1
    rcases hs with hs | hs
    · exact .inl ⟨vs, hs, by rw [e2, rs.length]⟩
    · exact .inr ⟨vs, hs, by rw [e2, rs.length]⟩
  cases rv with
  | str z =>
    simp only [lenA] at h
    split at h
    · cases h; exact .inl ⟨_, _, rfl, ⟨by assumption, rfl⟩, fin⟩
    · cases h
  | tup f rs => simp only [lenA, sqOf] at h; cases h; exact .inl ⟨_, _, rfl, sq rfl rfl, fin⟩
  | fl f rs => simp only [lenA, sqOf, lsOf] at h; cases h; exact .inl ⟨_, _, rfl, sq rfl rfl, fin⟩
  | kl f rs => simp only [lenA, sqOf, lsOf] at h; cases h; exact .inl ⟨_, _, rfl, sq rfl rfl, fin⟩
  | ref p =>
    simp only [lenA] at h
    cases e : sqOf A (.ref p) with
    | some xs => simp only [e] at h; cases h; exact .inl ⟨_, _, rfl, sq e rfl, fin⟩
    | none =>
      simp only [e] at h
      obtain ⟨kvs, h1, h2⟩ := Option.map_eq_some_iff.mp h
      obtain ⟨p2, vs, e2, e3, hA, hH, rk⟩ := dcOf_ok (.ref p) g h1
      cases e3
      refine .inr ⟨p, vs, rfl, hH, ?_⟩
      have e4 : kvs.length = vs.length := Paired.length rk
      rw [← e4, h2]
      exact fin
  | _ => simp [lenA, sqOf, lsOf, dcOf] at h

def int1 : AV → Option Int
  | .int i => some i
  | _ => none
def aInts : List AV → Option (List Int)
  | [] => some []
  | x :: xs => (int1 x).bind fun i => (aInts xs).map fun is => i :: is
theorem aInts_map (ns : List Int) : aInts (ns.map AV.int) = some ns := by
  induction ns with
  | nil => rfl
  | cons x r ih => rw [List.map_cons, aInts, ih]; rfl
theorem aInts_eq : ∀ {xs : List AV} {ns : List Int}, aInts xs = some ns → xs = ns.map AV.int
  | [], _, h => by cases h; rfl
  | x :: xs, ns, h => by
    obtain ⟨i, h1, h2⟩ := Option.bind_eq_some_iff.mp h
    obtain ⟨is, h3, rfl⟩ := Option.map_eq_some_iff.mp h2
    rw [List.map_cons, ← aInts_eq h3]
    cases x <;> cases h1
    rfl
theorem call_sumT (hc : X.calm = true) : CallR X (.builtin "sum") (fun vs H Q => ∃ (a : Addr) (ns : List Int), vs = [V.ref a] ∧ SqT X.K H a (ns.map V.int) ∧ Q (.int ns.sum) H) := by
  intro pins s σ H xs us Q I r ⟨a, ns, e, hS, q⟩
  subst e
  obtain ⟨u, rfl, ru⟩ := vals1 r
  cases ru
  obtain ⟨its, rv, ht, _⟩ := I.tuple hS
  have hi : PyProof.Rows.IntsAre its ns := Vals.ints rv
  obtain ⟨ys, e⟩ := hi.allInts.items
  have hn : numsOf (intItems ys).toList = ns := by rw [← e]; exact hi.numsOf
  rw [nums_intItems] at hn
  have ht2 : s.heap.IsTuple a (intItems ys) := by rw [← e]; exact ht
  refine PySem.W.ktm_sumG (I.ok.hd hc) ht2 fun h' tk t' hk => ?_
  refine ⟨.int ns.sum, H, I.kept hk, ⟨t', ?_⟩, q⟩
  rw [preSum_eq, List.take_of_length_le (by simp), hn]
def bSum : RCa := fun as A Q => ∃ x xs ns, as = [x] ∧ sqOf A x = some xs ∧ aInts xs = some ns ∧ Q (.int ns.sum) A
theorem b_sum (hc : X.calm = true) : CallR X (.builtin "sum") (lfC X.K bSum) := by
  refine callR_weak ((cr_sum hc).or (call_sumT hc)) fun vs H Q ⟨as, A, Q', rs, g, ⟨x, xs, ns, e, h, h2, q⟩, P⟩ => ?_
  subst e
  obtain ⟨v, rfl, rv⟩ := reps1 rs
  obtain ⟨p, vs, rfl, hs, rs⟩ := sqOf_ok rv g h
  have e2 := aInts_eq h2
  subst e2
  have e3 := repVs_ints rs
  subst e3
  have fin : Q (.int ns.sum) H := P _ _ _ _ (.int _) g .refl q
  rcases hs with hs | hs
  · exact .inl ⟨p, ns, rfl, hs, fin⟩
  · exact .inr ⟨p, ns, rfl, hs, fin⟩
theorem call_min3 (hc : X.calm = true) : CallR X (.builtin "min") (fun vs H Q => ∃ i j k : Int, vs = [.int i, .int j, .int k] ∧ Q (.int (min i (min j k))) H) := by
  intro pins s σ H xs us Q I r ⟨i, j, k, e, q⟩
  subst e
  cases r with | cons r1 t => cases t with | cons r2 t => cases t with | cons r3 t =>
  cases t
  obtain ⟨t1, rfl⟩ := r1
  obtain ⟨t2, rfl⟩ := r2
  obtain ⟨t3, rfl⟩ := r3
  refine min_three_ints (I.ok.hd hc) fun h' tk hk => ?_
  refine ⟨.int (min i (min j k)), H, I.kept hk, ?_, q⟩
  by_cases h1 : j < i
  · rw [if_pos h1]
    by_cases h2 : k < j
    · rw [if_pos h2]; exact ⟨t3, by rw [show min i (min j k) = k by omega]⟩
    · rw [if_neg h2]; exact ⟨t2, by rw [show min i (min j k) = j by omega]⟩
  · rw [if_neg h1]
    by_cases h2 : k < i
    · rw [if_pos h2]; exact ⟨t3, by rw [show min i (min j k) = k by omega]⟩
    · rw [if_neg h2]; exact ⟨t1, by rw [show min i (min j k) = i by omega]⟩
/-- min, max of two or three aInts -/
def bMin : RCa := fun as A Q => match as with
  | [.int i, .int j] => Q (.int (min i j)) A
  | [.int i, .int j, .int k] => Q (.int (min i (min j k))) A
  | _ => False
def bMax : RCa := fun as A Q => match as with
  | [.int i, .int j] => Q (.int (max i j)) A
  | _ => False
theorem b_min (hc : X.calm = true) : CallR X (.builtin "min") (lfC X.K bMin) := by
  refine callR_weak ((call_min2 hc).or (call_min3 hc)) fun vs H Q ⟨as, A, Q', rs, g, q, P⟩ => ?_
  unfold bMin at q
  split at q
  · rename_i i j
    obtain ⟨v, w, rfl, r1, r2⟩ := reps2 rs
    cases r1; cases r2
    refine .inl ⟨i, j, rfl, ?_⟩
    rw [show (if j < i then j else i) = min i j by split <;> omega]
    exact P _ _ _ _ (.int _) g .refl q
  · rename_i i j k
    obtain ⟨v, w, u, rfl, r1, r2, r3⟩ := reps3 rs
    cases r1; cases r2; cases r3
    exact .inr ⟨i, j, k, rfl, P _ _ _ _ (.int _) g .refl q⟩
  · exact q.elim
theorem b_max (hc : X.calm = true) : CallR X (.builtin "max") (lfC X.K bMax) := by
  refine callR_weak (call_max2 hc) fun vs H Q ⟨as, A, Q', rs, g, q, P⟩ => ?_
  unfold bMax at q
  split at q
  · rename_i i j
    obtain ⟨v, w, rfl, r1, r2⟩ := reps2 rs
    cases r1; cases r2
    refine ⟨i, j, rfl, ?_⟩
    rw [show (if j > i then j else i) = max i j by split <;> omega]
    exact P _ _ _ _ (.int _) g .refl q
  · exact q.elim
def bDivmod : RCa := fun as A Q => match as with
  | [.int i, .int j] => 0 < j ∧ j < 1073741824 ∧ Q (.tup [.int (i / j), .int (i % j)]) A
  | _ => False
theorem b_divmod : CallR X (.builtin "divmod") (lfC X.K bDivmod) := by
  refine callR_weak call_divmod fun vs H Q ⟨as, A, Q', rs, g, q, P⟩ => ?_
  unfold bDivmod at q
  split at q
  · rename_i i j
    obtain ⟨v, w, rfl, r1, r2⟩ := reps2 rs
    cases r1; cases r2
    exact ⟨i, j, rfl, ⟨q.1, q.2.1⟩, fun p hp => new_tup (AH' := A) P g hp (.cons (.int _) (.cons (.int _) .nil)) q.2.2⟩
  · exact q.elim
def bl1 : AV → Option Bool
  | .bl i => some i
  | _ => none
def aBls : List AV → Option (List Bool)
  | [] => some []
  | x :: xs => (bl1 x).bind fun i => (aBls xs).map fun is => i :: is
theorem aBls_map {α : Type} (f : α → Bool) (ns : List α) : aBls (ns.map fun x => AV.bl (f x)) = some (ns.map f) := by
  induction ns with
  | nil => rfl
  | cons x r ih => rw [List.map_cons, aBls, ih]; rfl
theorem aBls_eq : ∀ {xs : List AV} {ns : List Bool}, aBls xs = some ns → xs = ns.map AV.bl
  | [], _, h => by cases h; rfl
  | x :: xs, ns, h => by
    obtain ⟨i, h1, h2⟩ := Option.bind_eq_some_iff.mp h
    obtain ⟨is, h3, rfl⟩ := Option.map_eq_some_iff.mp h2
    rw [List.map_cons, ← aBls_eq h3]
    cases x <;> cases h1
    rfl
def bAll : RCa := fun as A Q => ∃ x xs bs, as = [x] ∧ lsOf A x = some xs ∧ aBls xs = some bs ∧ Q (.bl (bs.all fun b => b)) A
def bAny : RCa := fun as A Q => ∃ x xs bs, as = [x] ∧ lsOf A x = some xs ∧ aBls xs = some bs ∧ Q (.bl (bs.any fun b => b)) A
theorem b_all (hc : X.calm = true) : CallR X (.builtin "all") (lfC X.K bAll) := by
  refine callR_weak (cr_all hc) fun vs H Q ⟨as, A, Q', rs, g, ⟨x, xs, bs, e, h, h2, q⟩, P⟩ => ?_
  subst e
  obtain ⟨v, rfl, rv⟩ := reps1 rs
  obtain ⟨p, vs, rfl, hs, rs⟩ := lsOf_ok rv g h
  have e2 := aBls_eq h2
  subst e2
  have e3 := repVs_bls rs
  subst e3
  exact ⟨p, bs, rfl, hs, P _ _ _ _ (.bl _) g .refl q⟩
theorem b_any (hc : X.calm = true) : CallR X (.builtin "any") (lfC X.K bAny) := by
  refine callR_weak (cr_any hc) fun vs H Q ⟨as, A, Q', rs, g, ⟨x, xs, bs, e, h, h2, q⟩, P⟩ => ?_
  subst e
  obtain ⟨v, rfl, rv⟩ := reps1 rs
  obtain ⟨p, vs, rfl, hs, rs⟩ := lsOf_ok rv g h
  have e2 := aBls_eq h2
  subst e2
  have e3 := repVs_bls rs
  subst e3
  exact ⟨p, bs, rfl, hs, P _ _ _ _ (.bl _) g .refl q⟩

/-! ### isinstance -/
def tyN (A : AHp) : AV → Option String
  | .non => some "NoneType"
  | .bl _ => some "bool"
  | .int _ => some "int"
  | .str _ => some "str"
  | .tup _ => some "tuple"
  | .fl _ => some "list"
  | .kl _ => some "list"
  | .ref p => match A p with
    | some (.lst _) => some "list"
    | some (.dct _) => some "dict"
    | none => none
  | .ty _ => none
  | .exc _ _ _ => none
  | .cgt _ _ _ _ => none
theorem tyN_ok {K : PySem.W.Frag} {H : Hp} {A : AHp} {x : AV} {v : V} {n : String} (r : RepV K H A x v) (g : RH K A H) (h : tyN A x = some n) : TyX K H v (.type n) := by
  cases r with
  | non => cases h; exact .base .non
  | bl b => cases h; exact .base (.bl b)
  | int b => cases h; exact .base (.int b)
  | str b => cases h; exact .base (.str b)
  | ty b => cases h
  | cgt _ _ _ => cases h
  | tup f rs =>
    cases h
    rcases f with ⟨f | ⟨o, f⟩, _⟩ | ⟨o, its, n, h1, h2, _⟩
    · exact .base (.tup f)
    · exact .fTuple f
    · exact .kTuple h1 h2
  | fl f rs => cases h; exact .base (.lst f.1)
  | kl f rs =>
    cases h
    rcases f with ⟨f | ⟨o, f⟩, _⟩ | ⟨o, its, n, h1, h2, _⟩
    · exact .base (.lst f)
    · exact .base (.frz f)
    · exact .kList h1 h2
  | ref p =>
    unfold tyN at h
    cases e : A p with
    | none => simp only [e] at h; cases h
    | some o =>
      cases o with
      | dct ys => simp only [e] at h; cases h; obtain ⟨u, h1, vs, rfl, h2⟩ := g p _ e; exact .base (.dK h1)
      | lst ys => simp only [e] at h; cases h; obtain ⟨u, h1, vs, rfl, h2⟩ := g p _ e; exact .base (.lst h1)
def bIsi : RCa := fun as A Q => ∃ x n m b, as = [x, .ty m] ∧ tyN A x = some n ∧ kitB n m = some b ∧ Q (.bl b) A
theorem b_isi : CallR X (.builtin "isinstance") (lfC X.K bIsi) := by
  refine callR_weak call_isi fun vs H Q ⟨as, A, Q', rs, g, ⟨x, n, m, b, e, h, h2, q⟩, P⟩ => ?_
  subst e
  obtain ⟨v, w, rfl, r1, r2⟩ := reps2 rs
  cases r2
  exact ⟨v, .ty m, .type n, .type m, b, rfl, .ty m, tyN_ok r1 g h, kit_ty h2, P _ _ _ _ (.bl _) g .refl q⟩

/-! ### int(x), str(n), tuple(xs), list(xs) -/
def tInt : RCa := fun as A Q => match as with
  | [.int i] => Q (.int i) A
  | _ => False
theorem t_int : CallR X (.type "int") (lfC X.K tInt) := by
  refine callR_weak call_int1 fun vs H Q ⟨as, A, Q', rs, g, q, P⟩ => ?_
  unfold tInt at q
  split at q
  · obtain ⟨v, rfl, r1⟩ := reps1 rs
    cases r1
    exact .inl ⟨_, rfl, P _ _ _ _ (.int _) g .refl q⟩
  · exact q.elim
def tStr : RCa := fun as A Q => match as with
  | [.int i] => i.natAbs.log2 < 1920 ∧ Q (.str (toString i)) A
  | _ => False
theorem t_str : CallR X (.type "str") (lfC X.K tStr) := by
  refine callR_weak call_str_int fun vs H Q ⟨as, A, Q', rs, g, q, P⟩ => ?_
  unfold tStr at q
  split at q
  · obtain ⟨v, rfl, r1⟩ := reps1 rs
    cases r1
    exact ⟨_, rfl, q.1, P _ _ _ _ (.str _) g .refl q.2⟩
  · exact q.elim
def tTuple : RCa := fun as A Q => ∃ x xs, as = [x] ∧ sqOf A x = some xs ∧ Q (.tup xs) A
theorem t_tuple : CallR X (.type "tuple") (lfC X.K tTuple) := by
  refine callR_weak call_tuple_of fun vs H Q ⟨as, A, Q', rs, g, ⟨x, xs, e, h, q⟩, P⟩ => ?_
  subst e
  obtain ⟨v, rfl, rv⟩ := reps1 rs
  have ls : (∃ p vs, v = .ref p ∧ SqL X.K H p vs ∧ RepVs X.K H A xs vs) → ∃ p ys, [v] = [V.ref p] ∧ ((SqL X.K H p ys ∧ ∀ l, H l = none → Q (.ref l) (upd H l (.tup ys))) ∨ (SqT X.K H p ys ∧ Q (.ref p) H)) := by
    rintro ⟨p, vs, rfl, hs, rs⟩
    exact ⟨p, vs, rfl, .inl ⟨hs, fun l hl => new_tup (AH' := A) P g hl rs q⟩⟩
  cases rv with
  | tup f r2 => cases h; exact ⟨_, _, rfl, .inr ⟨f.sq, P _ _ _ _ (.tup f r2) g .refl q⟩⟩
  | fl f r2 => exact ls (lsOf_ok (.fl f r2) g h)
  | kl f r2 => exact ls (lsOf_ok (.kl f r2) g h)
  | ref p => exact ls (lsOf_ok (.ref p) g h)
  | _ => simp [sqOf, lsOf] at h
def tList : RCa := fun as A Q => ∃ x xs, as = [x] ∧ sqOf A x = some xs ∧ Q (.fl xs) A
def tListM : RCa := fun as A Q => ∃ x xs, as = [x] ∧ sqOf A x = some xs ∧ ∀ p, A p = none → Q (.ref p) (updA A p (.lst xs))
theorem t_list : CallR X (.type "list") (lfC X.K tList) := by
  refine callR_weak call_list_of fun vs H Q ⟨as, A, Q', rs, g, ⟨x, xs, e, h, q⟩, P⟩ => ?_
  subst e
  obtain ⟨v, rfl, rv⟩ := reps1 rs
  obtain ⟨p, vs, rfl, hs, rs⟩ := sqOf_ok rv g h
  exact ⟨p, vs, rfl, hs, fun l hl => new_fl P g hl rs q⟩
theorem t_listM : CallR X (.type "list") (lfC X.K tListM) := by
  refine callR_weak call_list_of fun vs H Q ⟨as, A, Q', rs, g, ⟨x, xs, e, h, q⟩, P⟩ => ?_
  subst e
  obtain ⟨v, rfl, rv⟩ := reps1 rs
  obtain ⟨p, vs, rfl, hs, rs⟩ := sqOf_ok rv g h
  exact ⟨p, vs, rfl, hs, fun l hl => new_lst P g hl rs (q l (g.noneA hl))⟩
end
end D

set_option Elab.async false
set_option linter.all false
set_option maxRecDepth 100000
namespace D
open PySem PySem.Spec L2

/-! ### what is walked -/
structure ItOk (K : PySem.W.Frag) (J : It) (items : List AV) (keep : AHp → Prop) (A0 : AHp) (H0 : Hp) : Prop where
  go : ∀ i A H, Step A0 H0 A H → keep A → RH K A H → i < items.length → J.go i H
  yld : ∀ i A H x H' a, Step A0 H0 A H → keep A → RH K A H → items[i]? = some a → J.yld i H x H' → RepV K H' A a x ∧ RH K A H' ∧ Step A H A H'
  stop : ∀ i A H, Step A0 H0 A H → keep A → RH K A H → items.length ≤ i → J.stop i H
theorem ItOk.on {K : PySem.W.Frag} {J : It} {items : List AV} {keep : AHp → Prop} {A0 A1 : AHp} {H0 H1 : Hp} (h : ItOk K J items keep A0 H0) (s : Step A0 H0 A1 H1) : ItOk K J items keep A1 H1 :=
  ⟨fun i A H st => h.go i A H (s.trans st), fun i A H x H' a st => h.yld i A H x H' a (s.trans st), fun i A H st => h.stop i A H (s.trans st)⟩
abbrev TIa := AEnv → AHp → (List AV → (AHp → Prop) → AHp → Prop) → Prop
def lfI (K : PySem.W.Frag) (t : TIa) : TI := fun σ H R => ∃ env A R', RepE K H A env σ ∧ RH K A H ∧ t env A R' ∧
  ∀ items keep A1 J H1, ItOk K J items keep A1 H1 → keep A1 → RH K A1 H1 → Step A H A1 H1 → R' items keep A1 → R J H1
abbrev DI (X : Cx) (tg iter : Expr) (t : TIa) : Prop := PI X tg iter (lfI X.K t)
def free : AHp → Prop := fun _ => True

section
variable {X : Cx} {tg e : Expr} {te : TEa} {pos p : Pos}
theorem pi_weak {tg e : Expr} {t u : TI} (h : PI X tg e t) (w : ∀ σ H R, u σ H R → t σ H R) : PI X tg e u := ⟨fun p s σ H R I q => h.run p s σ H R I (w _ _ _ q)⟩
/-- a list, a tuple or a text -/
theorem pi_sq {te : TE} (he : PE X e te) : PI X tg e (fun σ H R => te σ H fun x H1 => (∃ a xs, x = .ref a ∧ SqL X.K H1 a xs ∧ R (Itl X.K a) H1) ∨ (∃ a xs, x = .ref a ∧ SqT X.K H1 a xs ∧ R (Itt X.K a) H1) ∨ ∃ z, x = .str z ∧ R (Its z) H1) := by
  refine ⟨fun pins s σ H R I h => ?_⟩
  refine thn (he.run pins s σ H _ I h) fun v s1 ⟨x, H1, I1, r1, q1⟩ => ?_
  rcases q1 with ⟨a, xs, ex, hq, q⟩ | ⟨a, xs, ex, hq, q⟩ | ⟨z, ex, q⟩
  · subst ex
    cases r1
    obtain ⟨its, rv, p, hz⟩ := I1.list hq
    exact wpAny_pyIter_list p.isList (pi_one (tk := s1.toks) I1 _ (turn_list a _) ⟨_, Heap.get?_push_size _ rfl, rfl, rfl⟩ q)
  · subst ex
    cases r1
    obtain ⟨its, rv, p, hz⟩ := I1.tuple hq
    exact wpAny_pyIter_tuple (show s1.heap.IsTuple a its.toArray from p) (pi_one (tk := s1.toks) I1 _ (turn_tuple a _) ⟨_, Heap.get?_push_size _ rfl, rfl, rfl⟩ q)
  · subst ex
    obtain ⟨t, rfl⟩ := r1
    cases ha : z.cps.all (· < 128)
    · exact wpAny_pyIter_wide ha (pi_one (tk := s1.toks) I1 _ (turn_str _ z t "str_iterator" (.inr rfl)) ⟨_, Heap.get?_push_size _ rfl, rfl, rfl⟩ q)
    · exact wpAny_pyIter_ascii ha (pi_one (tk := s1.toks) I1 _ (turn_str _ z t "str_ascii_iterator" (.inl rfl)) ⟨_, Heap.get?_push_size _ rfl, rfl, rfl⟩ q)
/-- the signs of a text -/
def signs (z : Str) : List AV := z.cps.toList.map fun c => .str ⟨#[c]⟩
def sqR (x : AV) (A : AHp) (R : List AV → (AHp → Prop) → AHp → Prop) : Prop := match x with
  | .tup xs => R xs free A
  | .fl xs => R xs free A
  | .kl xs => R xs free A
  | .str z => R (signs z) free A
  | .ref p => ∃ xs, A p = some (.lst xs) ∧ R xs (fun B => B p = some (.lst xs)) A
  | _ => False
def iSq (te : TEa) : TIa := fun e A R => te e A fun x A1 => sqR x A1 R
theorem sq_lst {K : PySem.W.Frag} {a : Addr} {xs : List AV} {vs : List V} {A0 : AHp} {H0 : Hp} {keep : AHp → Prop}
    (h : ∀ A H, Step A0 H0 A H → keep A → RH K A H → ∃ vs, SqL K H a vs ∧ RepVs K H A xs vs) : ItOk K (Itl K a) xs keep A0 H0 where
  go := fun i A H st k g hi => by
    obtain ⟨vs, h1, h2⟩ := h A H st k g
    obtain ⟨v, h3, _⟩ := h2.get (List.getElem?_eq_getElem hi)
    exact ⟨vs, v, h1, h3⟩
  yld := fun i A H x H' b st k g hi hy => by
    obtain ⟨e, hy⟩ := hy
    subst e
    obtain ⟨vs, h1, h2⟩ := h A H' st k g
    obtain ⟨v, h3, h4⟩ := h2.get hi
    have e2 : v = x := Option.some.inj (h3.symm.trans (hy vs h1))
    subst e2
    exact ⟨h4, g, .refl⟩
  stop := fun i A H st k g hi => by
    obtain ⟨vs, h1, h2⟩ := h A H st k g
    exact ⟨vs, h1, by rw [← h2.length]; exact hi⟩
theorem sq_tup {K : PySem.W.Frag} {a : Addr} {xs : List AV} {vs : List V} {A0 : AHp} {H0 : Hp} (f : FzT K H0 A0 a vs) (r : RepVs K H0 A0 xs vs) : ItOk K (Itt K a) xs free A0 H0 where
  go := fun i A H st k g hi => by
    obtain ⟨v, h3, _⟩ := (r.step st).get (List.getElem?_eq_getElem hi)
    exact ⟨vs, v, (f.step st).sq, h3⟩
  yld := fun i A H x H' b st k g hi hy => by
    obtain ⟨e, hy⟩ := hy
    subst e
    obtain ⟨v, h3, h4⟩ := (r.step st).get hi
    have e2 : v = x := Option.some.inj (h3.symm.trans (hy vs (f.step st).sq))
    subst e2
    exact ⟨h4, g, .refl⟩
  stop := fun i A H st k g hi => ⟨vs, (f.step st).sq, by rw [← r.length]; exact hi⟩
theorem sq_str {K : PySem.W.Frag} {z : Str} {A0 : AHp} {H0 : Hp} : ItOk K (Its z) (signs z) free A0 H0 where
  go := fun i A H st k g hi => by
    show i < z.cps.size
    simpa [signs] using hi
  yld := fun i A H x H' b st k g hi hy => by
    obtain ⟨e, c, hc, e2⟩ := hy
    subst e e2
    have e3 : b = .str ⟨#[c]⟩ := by
      unfold signs at hi
      rw [List.getElem?_map, Array.getElem?_toList, hc] at hi
      exact (Option.some.inj hi).symm
    subst e3
    exact ⟨.str _, g, .refl⟩
  stop := fun i A H st k g hi => by
    show z.cps.size ≤ i
    simpa [signs] using hi
theorem di_sq (he : DE X e te) : DI X tg e (iSq te) := pi_weak (pi_sq he) fun σ H R ⟨env, A, R', re, g, q, P⟩ => ⟨env, A, _, re, g, q, fun x A1 v H1 rx g1 s1 q1 => by
  cases rx with
  | tup f rs => exact .inr (.inl ⟨_, _, rfl, f.sq, P _ _ _ _ _ (sq_tup f rs) trivial g1 s1 q1⟩)
  | fl f rs =>
    refine .inl ⟨_, _, rfl, .of f.1, P _ _ _ _ _ (sq_lst (vs := []) fun A2 H2 st _ g2 => ⟨_, .of (st _ _ f.1 f.2).1, rs.step st⟩) trivial g1 s1 q1⟩
  | kl f rs =>
    exact .inl ⟨_, _, rfl, f.sq, P _ _ _ _ _ (sq_lst (vs := []) fun A2 H2 st _ g2 => ⟨_, (f.step st).sq, rs.step st⟩) trivial g1 s1 q1⟩
  | str z => exact .inr (.inr ⟨z, rfl, P _ _ _ _ _ sq_str trivial g1 s1 q1⟩)
  | ref p =>
    obtain ⟨xs, e1, q1⟩ := q1
    obtain ⟨u, h1, vs, rfl, h2⟩ := g1 p _ e1
    exact .inl ⟨_, _, rfl, .of h1, P _ _ _ _ _ (sq_lst (vs := []) fun A2 H2 st k g2 => by
      obtain ⟨u, h3, ws, e3, h4⟩ := g2 p _ k
      subst e3
      exact ⟨ws, .of h3, h4⟩) e1 g1 s1 q1⟩
  | _ => exact q1.elim⟩
/-- range -/
def rng (lo : Int) (n : Nat) : List AV := (List.range n).map fun (i : Nat) => .int (lo + (i : Int))
theorem rng_ok {K : PySem.W.Frag} {lo : Int} {n : Nat} {A0 : AHp} {H0 : Hp} : ItOk K (Itr lo n) (rng lo n) free A0 H0 where
  go := fun i A H st k g hi => by
    show i < n
    simpa [rng] using hi
  yld := fun i A H x H' b st k g hi hy => by
    obtain ⟨e, e2⟩ := hy
    subst e e2
    have e3 : b = .int (lo + (i : Nat)) := by
      unfold rng at hi
      rw [List.getElem?_map] at hi
      by_cases hn : i < n
      · rw [List.getElem?_range hn] at hi
        exact (Option.some.inj hi).symm
      · rw [List.getElem?_eq_none (by simpa using Nat.le_of_not_lt hn)] at hi
        cases hi
    subst e3
    exact ⟨.int _, g, .refl⟩
  stop := fun i A H st k g hi => by
    show n ≤ i
    simpa [rng] using hi
def iRg1 (t : TAa) : TIa := fun e A R => t e A fun xs A1 => ∃ j : Int, xs = [.int j] ∧ -(2 ^ 62) ≤ j ∧ j < 2 ^ 62 ∧ R (rng 0 j.toNat) free A1
def iRg2 (t : TAa) : TIa := fun e A R => t e A fun xs A1 => ∃ i j : Int, xs = [.int i, .int j] ∧ (-(2 ^ 62) ≤ i ∧ i < 2 ^ 62 ∧ -(2 ^ 62) ≤ j ∧ j < 2 ^ 62) ∧ R (rng i (j - i).toNat) free A1
theorem di_rg1 {a : Expr} {ta : TAa} (hg : Gl X "range") (hm : X.mg "range" = none) (ha : DA X [a] ta) (hs : starEach [a] X.env = [(false, eval a X.env)] := by rfl) : DI X tg (.Call (.Name "range" p) [a] [] pos) (iRg1 ta) :=
  pi_weak (pi_range1 hg hm ha hs) fun σ H R ⟨env, A, R', re, g, q, P⟩ => ⟨env, A, _, re, g, q, fun xs A1 vs H1 rs g1 s1 ⟨j, e, h1, h2, q1⟩ => by
    subst e
    obtain ⟨v, rfl, r⟩ := reps1 rs
    cases r
    exact ⟨j, rfl, h1, h2, P _ _ _ _ _ rng_ok trivial g1 s1 q1⟩⟩
theorem di_rg2 {a b : Expr} {ta : TAa} (hg : Gl X "range") (hm : X.mg "range" = none) (ha : DA X [a, b] ta) (hs : starEach [a, b] X.env = [(false, eval a X.env), (false, eval b X.env)] := by rfl) (hs2 : starEach [b] X.env = [(false, eval b X.env)] := by rfl) :
    DI X tg (.Call (.Name "range" p) [a, b] [] pos) (iRg2 ta) :=
  pi_weak (pi_range2 hg hm ha hs hs2) fun σ H R ⟨env, A, R', re, g, q, P⟩ => ⟨env, A, _, re, g, q, fun xs A1 vs H1 rs g1 s1 ⟨i, j, e, h, q1⟩ => by
    subst e
    obtain ⟨v, w, rfl, r, r2⟩ := reps2 rs
    cases r; cases r2
    exact ⟨i, j, rfl, h, P _ _ _ _ _ rng_ok trivial g1 s1 q1⟩⟩
/-- zip of two tuples, of two lists -/
def zipA (xs ys : List AV) : List AV := (xs.zip ys).map fun p => .tup [p.1, p.2]
theorem zip_at {xs ys : List AV} {i : Nat} {a : AV} (h : (zipA xs ys)[i]? = some a) : ∃ x y, xs[i]? = some x ∧ ys[i]? = some y ∧ a = .tup [x, y] := by
  unfold zipA at h
  rw [List.getElem?_map] at h
  obtain ⟨⟨x, y⟩, h1, h2⟩ := Option.map_eq_some_iff.mp h
  obtain ⟨h3, h4⟩ := List.getElem?_zip_eq_some.mp h1
  exact ⟨x, y, h3, h4, h2.symm⟩
theorem new_pair {K : PySem.W.Frag} {A : AHp} {H : Hp} {T : Addr} {x y : AV} {v w : V} (g : RH K A H) (hT : H T = none) (r1 : RepV K H A x v) (r2 : RepV K H A y w) :
    RepV K (upd H T (.tup [v, w])) A (.tup [x, y]) (.ref T) ∧ RH K A (upd H T (.tup [v, w])) ∧ Step A H A (upd H T (.tup [v, w])) := by
  have st : Step A H A (upd H T (.tup [v, w])) := Step.fz (K := K) hT
  exact ⟨.tup (.inl ⟨.inl upd_same, g.noneA hT⟩) (.cons (r1.step st) (.cons (r2.step st) .nil)), g.fz hT, st⟩
theorem zipT_ok {K : PySem.W.Frag} {a b : Addr} {xs ys : List AV} {vs ws : List V} {A0 : AHp} {H0 : Hp} (f1 : FzT K H0 A0 a vs) (r1 : RepVs K H0 A0 xs vs) (f2 : FzT K H0 A0 b ws) (r2 : RepVs K H0 A0 ys ws) : ItOk K (RZ.ItzT K a b) (zipA xs ys) free A0 H0 where
  go := fun i A H st k g hi => by
    obtain ⟨x, y, h1, h2, _⟩ := zip_at (List.getElem?_eq_getElem hi)
    obtain ⟨v, h3, _⟩ := r1.get h1
    obtain ⟨w, h4, _⟩ := r2.get h2
    exact ⟨vs, ws, v, w, (f1.step st).sq, (f2.step st).sq, h3, h4⟩
  yld := fun i A H x H' c st k g hi hy => by
    obtain ⟨T, v, w, e1, hT, e2, hv, hw⟩ := hy
    subst e1 e2
    obtain ⟨x, y, h1, h2, rfl⟩ := zip_at hi
    obtain ⟨v', h3, r3⟩ := (r1.step st).get h1
    obtain ⟨w', h4, r4⟩ := (r2.step st).get h2
    have e3 : v' = v := Option.some.inj (h3.symm.trans (hv _ (f1.step st).sq))
    have e4 : w' = w := Option.some.inj (h4.symm.trans (hw _ (f2.step st).sq))
    subst e3 e4
    exact new_pair g hT r3 r4
  stop := fun i A H st k g hi => by
    refine ⟨vs, ws, (f1.step st).sq, (f2.step st).sq, ?_⟩
    unfold zipA at hi
    rw [List.length_map, List.length_zip] at hi
    rw [← r1.length, ← r2.length]
    omega
def iZp (t : TAa) : TIa := fun e A R => t e A fun xs A1 => match xs with
  | [.tup a, .tup b] => R (zipA a b) free A1
  | _ => False
theorem di_zip {e e2 : Expr} {ta : TAa} {tpos : Pos} {elts : List Expr} {kk : Nat} (hg : Gl X "zip") (hm : X.mg "zip" = none) (ha : DA X [e, e2] ta)
    (hs : starEach [e, e2] X.env = (false, eval e X.env) :: starEach [e2] X.env := by rfl) (hpl : (backTo pos (starEach [e2] X.env)).any (·.1) = false := by rfl) :
    DI X (.Tuple elts kk tpos) (.Call (.Name "zip" p) [e, e2] [] pos) (iZp ta) :=
  pi_weak (RZ.pi_zipA hg hm ha hs hpl) fun σ H R ⟨env, A, R', re, g, q, P⟩ => ⟨env, A, _, re, g, q, fun xs A1 vs H1 rs g1 s1 q1 => by
    split at q1
    · obtain ⟨v, w, rfl, r1, r2⟩ := reps2 rs
      cases r1 with | tup f1 r1 => cases r2 with | tup f2 r2 =>
      exact ⟨_, _, _, _, rfl, .inr ⟨f1.sq, f2.sq, P _ _ _ _ _ (zipT_ok f1 r1 f2 r2) trivial g1 s1 q1⟩⟩
    · exact q1.elim⟩
/-- enumerate of a list -/
def enumA (xs : List AV) : List AV := xs.zipIdx.map fun p => .tup [.int (p.2 : Nat), p.1]
theorem enum_at {xs : List AV} {i : Nat} {a : AV} (h : (enumA xs)[i]? = some a) : ∃ x, xs[i]? = some x ∧ a = .tup [.int (i : Nat), x] := by
  unfold enumA at h
  rw [List.getElem?_map, List.getElem?_zipIdx] at h
  obtain ⟨p, h1, h2⟩ := Option.map_eq_some_iff.mp h
  obtain ⟨x, h3, h4⟩ := Option.map_eq_some_iff.mp h1
  subst h4
  exact ⟨x, h3, by rw [← h2]; simp⟩
theorem enum_ok {K : PySem.W.Frag} {a : Addr} {xs : List AV} {A0 : AHp} {H0 : Hp} {keep : AHp → Prop}
    (h : ∀ A H, Step A0 H0 A H → keep A → RH K A H → ∃ vs, SqL K H a vs ∧ RepVs K H A xs vs) : ItOk K (Ite K a) (enumA xs) keep A0 H0 where
  go := fun i A H st k g hi => by
    obtain ⟨vs, h1, h2⟩ := h A H st k g
    obtain ⟨x, h3, _⟩ := enum_at (List.getElem?_eq_getElem hi)
    obtain ⟨v, h4, _⟩ := h2.get h3
    exact ⟨vs, v, h1, h4⟩
  yld := fun i A H x H' b st k g hi hy => by
    obtain ⟨T, v, e1, hT, e2, hv⟩ := hy
    subst e1 e2
    obtain ⟨vs, h1, h2⟩ := h A H st k g
    obtain ⟨x, h3, rfl⟩ := enum_at hi
    obtain ⟨v', h4, r4⟩ := h2.get h3
    have e3 : v' = v := Option.some.inj (h4.symm.trans (hv _ h1))
    subst e3
    exact new_pair g hT (.int _) r4
  stop := fun i A H st k g hi => by
    obtain ⟨vs, h1, h2⟩ := h A H st k g
    refine ⟨vs, h1, ?_⟩
    unfold enumA at hi
    rw [List.length_map, List.length_zipIdx] at hi
    rw [← h2.length]
    exact hi
def iEn (t : TAa) : TIa := fun e A R => t e A fun xs A1 => match xs with
  | [.fl a] => R (enumA a) free A1
  | [.ref p] => ∃ a, A1 p = some (.lst a) ∧ R (enumA a) (fun B => B p = some (.lst a)) A1
  | _ => False
theorem di_enum {e : Expr} {ta : TAa} {tpos : Pos} {elts : List Expr} {kk : Nat} (hg : Gl X "enumerate") (hm : X.mg "enumerate" = none) (ha : DA X [e] ta) (hs : starEach [e] X.env = [(false, eval e X.env)] := by rfl) :
    DI X (.Tuple elts kk tpos) (.Call (.Name "enumerate" p) [e] [] pos) (iEn ta) :=
  pi_weak (pi_enum hg hm ha hs) fun σ H R ⟨env, A, R', re, g, q, P⟩ => ⟨env, A, _, re, g, q, fun xs A1 vs H1 rs g1 s1 q1 => by
    split at q1
    · obtain ⟨v, rfl, r⟩ := reps1 rs
      cases r with | fl f r2 =>
      exact ⟨_, _, rfl, .of f.1, P _ _ _ _ _ (enum_ok fun A2 H2 st _ g2 => ⟨_, .of (st _ _ f.1 f.2).1, r2.step st⟩) trivial g1 s1 q1⟩
    · rename_i p'
      obtain ⟨v, rfl, r⟩ := reps1 rs
      cases r
      obtain ⟨a, e1, q1⟩ := q1
      obtain ⟨u, h1, ws, rfl, h2⟩ := g1 _ _ e1
      exact ⟨_, _, rfl, .of h1, P _ _ _ _ _ (enum_ok fun A2 H2 st k g2 => by
        obtain ⟨u, h3, ws, e3, h4⟩ := g2 _ _ k
        subst e3
        exact ⟨ws, .of h3, h4⟩) e1 g1 s1 q1⟩
    · exact q1.elim⟩

/-! ### targets -/
abbrev TGa := AV → AEnv → AHp → (AEnv → AHp → Prop) → Prop
abbrev TGas := List AV → AEnv → AHp → (AEnv → AHp → Prop) → Prop
def lfG (K : PySem.W.Frag) (t : TGa) : TG := fun v σ H Q => ∃ a env A Q', RepV K H A a v ∧ RepE K H A env σ ∧ RH K A H ∧ t a env A Q' ∧ ∀ e2 A2 σ2 H2, RepE K H2 A2 e2 σ2 → RH K A2 H2 → Step A H A2 H2 → Q' e2 A2 → Q σ2 H2
def lfGs (K : PySem.W.Frag) (t : TGas) : TGs := fun vs σ H Q => ∃ as env A Q', RepVs K H A as vs ∧ RepE K H A env σ ∧ RH K A H ∧ t as env A Q' ∧ ∀ e2 A2 σ2 H2, RepE K H2 A2 e2 σ2 → RH K A2 H2 → Step A H A2 H2 → Q' e2 A2 → Q σ2 H2
/-- a target's two readings -/
def GL (K : PySem.W.Frag) (g : TG) (t : TGa) : Prop := ∀ v σ H Q, lfG K t v σ H Q → g v σ H Q
def GLs (K : PySem.W.Frag) (g : TGs) (t : TGas) : Prop := ∀ v σ H Q, lfGs K t v σ H Q → g v σ H Q
def hName (i : Nat) : TGa := fun v e A Q => Q (e.set i (some v)) A
def hNil : TGas := fun vs e A Q => vs = [] ∧ Q e A
def hCons (t : TGa) (u : TGas) : TGas := fun vs e A Q => ∃ v r, vs = v :: r ∧ t v e A fun e2 A2 => u r e2 A2 Q
def hTup (n : Nat) (t : TGas) : TGa := fun v e A Q => ∃ xs, v = .tup xs ∧ xs.length = n ∧ t xs e A Q
theorem gl_name {K : PySem.W.Frag} {i : Nat} : GL K (gName i) (hName i) := fun v σ H Q ⟨a, env, A, Q', r, re, g, q, P⟩ => P _ _ _ _ (RepE.set (x := some a) (y := some v) r i re) g .refl q
theorem gl_nil {K : PySem.W.Frag} : GLs K gNil hNil := fun vs σ H Q ⟨as, env, A, Q', r, re, g, ⟨e, q⟩, P⟩ => by
  subst e; cases r; exact ⟨rfl, P _ _ _ _ re g .refl q⟩
theorem gl_cons {K : PySem.W.Frag} {g1 : TG} {t : TGa} {g2 : TGs} {u : TGas} (h1 : GL K g1 t) (h2 : GLs K g2 u) : GLs K (gCons g1 g2) (hCons t u) := fun vs σ H Q ⟨as, env, A, Q', r, re, g, ⟨v, rr, e, q⟩, P⟩ => by
  subst e
  cases r with | cons ra rs =>
  refine ⟨_, _, rfl, h1 _ _ _ _ ⟨v, env, A, _, ra, re, g, q, fun e2 A2 σ2 H2 re2 g2 s2 q2 => ?_⟩⟩
  exact h2 _ _ _ _ ⟨rr, e2, A2, Q', rs.step s2, re2, g2, q2, fun e3 A3 σ3 H3 re3 g3 s3 q3 => P e3 A3 σ3 H3 re3 g3 (s2.trans s3) q3⟩
theorem gl_tup {K : PySem.W.Frag} {n : Nat} {g1 : TGs} {t : TGas} (h : GLs K g1 t) : GL K (gTup K n g1) (hTup n t) := fun v σ H Q ⟨a, env, A, Q', r, re, g, ⟨xs, e, hl, q⟩, P⟩ => by
  subst e
  cases r with | tup f rs =>
  exact ⟨_, _, rfl, f.sq, by rw [← rs.length]; exact hl, h _ _ _ _ ⟨xs, env, A, Q', rs, re, g, q, P⟩⟩
/-- a target that stores only own names -/
def Wip (g : TG) (vs : List Nat) : Prop := ∀ v σ H Q, g v σ H Q → g v σ H fun σ2 H2 => wipe σ2 vs = wipe σ vs ∧ Q σ2 H2
def Wips (g : TGs) (vs : List Nat) : Prop := ∀ v σ H Q, g v σ H Q → g v σ H fun σ2 H2 => wipe σ2 vs = wipe σ vs ∧ Q σ2 H2
theorem wipe_comm (σ : L2.St) (i : Nat) (x : Option V) (y : Option V) (j : Nat) : (σ.set i x).set j y = if i = j then σ.set j y else (σ.set j y).set i x := by
  split
  · subst i; rw [List.set_set]
  · rw [List.set_comm _ _ (by assumption)]
theorem wipe_set {i : Nat} {x : Option V} : ∀ {vs : List Nat} {σ : L2.St}, i ∈ vs → wipe (σ.set i x) vs = wipe σ vs
  | [], _, h => by cases h
  | v :: vs, σ, h => by
    show (wipe (σ.set i x) vs).set v none = (wipe σ vs).set v none
    by_cases hv : i ∈ vs
    · rw [wipe_set hv]
    · have e : i = v := (List.mem_cons.mp h).resolve_right hv
      subst e
      have out : ∀ (ws : List Nat), i ∉ ws → wipe (σ.set i x) ws = (wipe σ ws).set i x := by
        intro ws
        induction ws with
        | nil => intro _; rfl
        | cons w ws ih =>
          intro hw
          show (wipe (σ.set i x) ws).set w none = ((wipe σ ws).set w none).set i x
          rw [ih fun z => hw (List.mem_cons_of_mem _ z), wipe_comm, if_neg]
          rintro rfl
          exact hw List.mem_cons_self
      rw [out vs hv, List.set_set]
theorem wip_name {i : Nat} {vs : List Nat} (h : i ∈ vs) : Wip (gName i) vs := fun v σ H Q q => ⟨wipe_set h, q⟩
theorem wip_nil {vs : List Nat} : Wips gNil vs := fun v σ H Q q => ⟨q.1, rfl, q.2⟩
theorem wip_mono {g1 : TG} {t : TGa} {K : PySem.W.Frag} (v : V) (σ : L2.St) (H : Hp) (Q R : L2.St → Hp → Prop) : True := trivial
/-- monotone targets -/
def Mon (g : TG) : Prop := ∀ v σ H (Q R : L2.St → Hp → Prop), g v σ H Q → (∀ a b, Q a b → R a b) → g v σ H R
def Mons (g : TGs) : Prop := ∀ v σ H (Q R : L2.St → Hp → Prop), g v σ H Q → (∀ a b, Q a b → R a b) → g v σ H R
theorem mon_name {i : Nat} : Mon (gName i) := fun v σ H Q R q h => h _ _ q
theorem mon_nil : Mons gNil := fun v σ H Q R q h => ⟨q.1, h _ _ q.2⟩
theorem mon_cons {g1 : TG} {g2 : TGs} (h1 : Mon g1) (h2 : Mons g2) : Mons (gCons g1 g2) := fun v σ H Q R ⟨a, b, e, q⟩ h => ⟨a, b, e, h1 _ _ _ _ _ q fun s H' q' => h2 _ _ _ _ _ q' h⟩
theorem mon_tup {K : PySem.W.Frag} {n : Nat} {g : TGs} (h1 : Mons g) : Mon (gTup K n g) := fun v σ H Q R ⟨a, b, e, f, l, q⟩ h => ⟨a, b, e, f, l, h1 _ _ _ _ _ q h⟩
theorem wip_cons {g1 : TG} {g2 : TGs} {vs : List Nat} (m1 : Mon g1) (m2 : Mons g2) (h1 : Wip g1 vs) (h2 : Wips g2 vs) : Wips (gCons g1 g2) vs := fun v σ H Q ⟨a, b, e, q⟩ =>
  ⟨a, b, e, m1 _ _ _ _ _ (h1 _ _ _ _ q) fun s H' ⟨e1, q1⟩ => m2 _ _ _ _ _ (h2 _ _ _ _ q1) fun s2 H2 ⟨e2, q2⟩ => ⟨e2.trans e1, q2⟩⟩
theorem wip_tup {K : PySem.W.Frag} {n : Nat} {g : TGs} {vs : List Nat} (h : Wips g vs) : Wip (gTup K n g) vs := fun v σ H Q ⟨a, b, e, f, l, q⟩ => ⟨a, b, e, f, l, h _ _ _ _ q⟩

/-! ### for -/
def runFor (keep : AHp → Prop) (g : TGa) (tb : TSa) (D : EndsA) : List AV → AEnv → AHp → Prop
  | [], e, A => D.nx e A
  | x :: xs, e, A => g x e A fun e1 A1 => tb { D with nx := fun e2 A2 => keep A2 ∧ runFor keep g tb D xs e2 A2, ct := fun e2 A2 => keep A2 ∧ runFor keep g tb D xs e2 A2, bk := D.nx } e1 A1
def sFor (wi : TIa) (g : TGa) (tb : TSa) : TSa := fun D e A => wi e A fun items keep A1 => runFor keep g tb D items e A1
theorem ds_for {X : Cx} {tg iter : Expr} {body : List Stmt} {wi : TIa} {g : TG} {t : TGa} {tb : TSa} {pos : Pos} (hp : PassesOwn (model X.prog X.w) X.A X.env X.xe) (hc : X.calm = true) (hi : DI X tg iter wi) (hg : PG X tg g) (gl : GL X.K g t) (hb : DSs X body tb)
    (hs : ∀ x, foldedSetIterable iter X.env x = pure x := by intro _; rfl) : DS X (.For tg iter body [] pos) (sFor wi t tb) :=
  ps_weak (ps_for hp hc hi hg hb hs) fun D σ H ⟨env, A, D', re, g0, q, P⟩ => by
    refine ⟨env, A, _, re, g0, q, fun items keep A1 J H1 ok k1 g1 s1 q1 => ?_⟩
    refine ⟨fun i m σ' H' => m = items.length - i ∧ i ≤ items.length ∧ ∃ e' A', RepE X.K H' A' e' σ' ∧ RH X.K A' H' ∧ Step A1 H1 A' H' ∧ keep A' ∧ runFor keep t tb D' (items.drop i) e' A', ⟨items.length, by simp, Nat.zero_le _, env, A1, re.step s1, g1, .refl, k1, by rw [List.drop_zero]; exact q1⟩, ?_⟩
    rintro i m σ' H' ⟨rfl, hi, e', A', re', g', s', k', q'⟩
    by_cases hlt : i < items.length
    · have ed : items.drop i = items[i] :: items.drop (i + 1) := List.drop_eq_getElem_cons hlt
      rw [ed] at q'
      refine .inr ⟨ok.go i A' H' s' k' g' hlt, fun σ2 H2 => ∃ e2 A2, RepE X.K H2 A2 e2 σ2 ∧ RH X.K A2 H2 ∧ Step A1 H1 A2 H2 ∧ keep A2 ∧ runFor keep t tb D' (items.drop (i + 1)) e2 A2, fun σ2 H2 ⟨e2, A2, a1, a2, a3, a4, a5⟩ => ⟨items.length - (i + 1), by omega, rfl, hlt, e2, A2, a1, a2, a3, a4, a5⟩, fun x H2 hy => ?_⟩
      obtain ⟨rx, g2, s2⟩ := ok.yld i A' H' x H2 items[i] s' k' g' (List.getElem?_eq_getElem hlt) hy
      refine gl _ _ _ _ ⟨items[i], e', A', _, rx, re'.step s2, g2, q', fun e3 A3 σ3 H3 re3 g3 s3 q3 => ?_⟩
      have sA : Step A H A3 H3 := s1.trans (s'.trans (s2.trans s3))
      have sB : Step A1 H1 A3 H3 := s'.trans (s2.trans s3)
      refine ⟨e3, A3, _, re3, g3, q3, ⟨?_, ?_, ?_, ?_, fun x4 c4 d4 e4 A4 σ4 H4 rx4 re4 g4 s4 q4 => P.ex x4 c4 d4 e4 A4 σ4 H4 rx4 re4 g4 (sA.trans s4) q4⟩⟩
      · rintro e4 A4 σ4 H4 re4 g4 s4 ⟨k4, q4⟩
        exact ⟨e4, A4, re4, g4, sB.trans s4, k4, q4⟩
      · intro a A4 v H4 r4 g4 s4 q4
        exact P.rt a A4 v H4 r4 g4 (sA.trans s4) q4
      · intro e4 A4 σ4 H4 re4 g4 s4 q4
        exact P.nx e4 A4 σ4 H4 re4 g4 (sA.trans s4) q4
      · rintro e4 A4 σ4 H4 re4 g4 s4 ⟨k4, q4⟩
        exact ⟨e4, A4, re4, g4, sB.trans s4, k4, q4⟩
    · have e : i = items.length := by omega
      subst e
      rw [List.drop_length] at q'
      exact .inl ⟨ok.stop _ A' H' s' k' g' (Nat.le_refl _), P.nx e' A' σ' H' re' g' (s1.trans s') q'⟩

/-! ### while -/
def sWhile (c : TTa) (tb : TSa) : TSa := fun D e A => ∃ W : Nat → AEnv → AHp → Prop, (∃ m, W m e A) ∧ ∀ m e A, W m e A →
  c e A fun b A1 => if b = true then tb { D with nx := fun e2 A2 => ∃ m', m' < m ∧ W m' e2 A2, ct := fun e2 A2 => ∃ m', m' < m ∧ W m' e2 A2, bk := D.nx } e A1 else D.nx e A1
theorem ds_while {X : Cx} {c : Expr} {body : List Stmt} {tc : TTa} {tb : TSa} {pos : Pos} (hp : PassesOwn (model X.prog X.w) X.A X.env X.xe) (hc : DT X c tc) (hb : DSs X body tb) : DS X (.While c body [] pos) (sWhile tc tb) :=
  ps_weak (ps_while hp hc hb) fun D σ H ⟨env, A, D', re, g0, ⟨W, ⟨m0, w0⟩, turn⟩, P⟩ => by
    refine ⟨fun m σ' H' => ∃ e' A', RepE X.K H' A' e' σ' ∧ RH X.K A' H' ∧ Step A H A' H' ∧ W m e' A', ⟨m0, env, A, re, g0, .refl, w0⟩, ?_⟩
    rintro m σ' H' ⟨e', A', re', g', s', w'⟩
    refine ⟨e', A', _, re', g', turn m e' A' w', fun b A1 b' H1 hb g1 s1 q1 => ?_⟩
    subst hb
    cases b with
    | false => exact P.nx _ _ _ _ (re'.step s1) g1 (s'.trans s1) q1
    | true =>
      refine ⟨fun σ2 H2 => ∃ m', m' < m ∧ ∃ e2 A2, RepE X.K H2 A2 e2 σ2 ∧ RH X.K A2 H2 ∧ Step A H A2 H2 ∧ W m' e2 A2, fun σ2 H2 ⟨m', hm, z⟩ => ⟨m', hm, z⟩, ?_⟩
      have sA := s'.trans s1
      refine ⟨e', A1, _, re'.step s1, g1, q1, ⟨?_, ?_, ?_, ?_, fun x4 c4 d4 e4 A4 σ4 H4 rx4 re4 g4 s4 q4 => P.ex x4 c4 d4 e4 A4 σ4 H4 rx4 re4 g4 (sA.trans s4) q4⟩⟩
      · rintro e4 A4 σ4 H4 re4 g4 s4 ⟨m', hm, w4⟩
        exact ⟨m', hm, e4, A4, re4, g4, sA.trans s4, w4⟩
      · intro a A4 v H4 r4 g4 s4 q4
        exact P.rt a A4 v H4 r4 g4 (sA.trans s4) q4
      · intro e4 A4 σ4 H4 re4 g4 s4 q4
        exact P.nx e4 A4 σ4 H4 re4 g4 (sA.trans s4) q4
      · rintro e4 A4 σ4 H4 re4 g4 s4 ⟨m', hm, w4⟩
        exact ⟨m', hm, e4, A4, re4, g4, sA.trans s4, w4⟩
end
end D

set_option Elab.async false
set_option linter.all false
set_option maxRecDepth 100000
namespace D
open PySem PySem.Spec L2

/-! ### comprehensions -/
def delA (A : AHp) (p : Addr) : AHp := fun b => if b = p then none else A b
theorem delA_sub {A : AHp} {p : Addr} : SubA (delA A p) A := fun a o e => by
  unfold delA at e
  split at e
  · cases e
  · exact e
theorem delA_same {A : AHp} {p : Addr} : delA A p p = none := if_pos rfl
theorem delA_upd {A : AHp} {p : Addr} {o : AO} (h : A p = none) : delA (updA A p o) p = A := by
  funext b
  unfold delA updA
  by_cases e : b = p
  · rw [if_pos e, e, h]
  · rw [if_neg e, if_neg e]
theorem wipe_out {σ : L2.St} {x : Option V} {i : Nat} : ∀ (ws : List Nat), i ∉ ws → wipe (σ.set i x) ws = (wipe σ ws).set i x
  | [], _ => rfl
  | w :: ws, hw => by
    show (wipe (σ.set i x) ws).set w none = ((wipe σ ws).set w none).set i x
    rw [wipe_out ws fun z => hw (List.mem_cons_of_mem _ z), wipe_comm, if_neg]
    rintro rfl
    exact hw List.mem_cons_self
theorem wipe_wipe {σ : L2.St} : ∀ (vs us : List Nat), (∀ i ∈ us, i ∈ vs) → wipe (wipe σ us) vs = wipe σ vs
  | vs, [], _ => rfl
  | vs, u :: us, h => by
    show wipe ((wipe σ us).set u none) vs = wipe σ vs
    rw [wipe_set (h u List.mem_cons_self)]
    exact wipe_wipe vs us fun i hi => h i (List.mem_cons_of_mem _ hi)
abbrev TCa := TTa
def aYes : TTa := fun _ A Q => Q true A
abbrev DTs (X : Cx) (ifs : List Expr) (t : TTa) : Prop := PTs X ifs (lfT X.K t)
section
variable {X : Cx}
theorem pts_weak {e : List Expr} {t u : TT} (h : PTs X e t) (w : ∀ σ H Q, u σ H Q → t σ H Q) : PTs X e u := ⟨fun p s σ H Q I q => h.run p s σ H Q I (w _ _ _ q)⟩
theorem dts_nil : DTs X [] aYes := pts_weak pts_nil fun σ H Q ⟨env, A, Q', re, g, q, P⟩ => P _ _ _ _ rfl g .refl q
theorem dts_one {c : Expr} {t : TTa} (h : DT X c t) : DTs X [c] t := pts_one h

def runLc (keep : AHp → Prop) (g : TGa) (tt : TTa) (te : TEa) (env : AEnv) (D : Addr) (Q : List AV → AHp → Prop) : List AV → List AV → AHp → Prop
  | [], acc, A => A D = some (.lst acc) ∧ Q acc A
  | x :: xs, acc, A => g x env A fun e2 A2 => tt e2 A2 fun b A3 => if b = true then te e2 A3 fun y A4 => A4 D = some (.lst acc) ∧ acc.length < sizeLine ∧ keep (updA A4 D (.lst (acc ++ [y]))) ∧ runLc keep g tt te env D Q xs (acc ++ [y]) (updA A4 D (.lst (acc ++ [y])))
      else A3 D = some (.lst acc) ∧ keep A3 ∧ runLc keep g tt te env D Q xs acc A3
/-- the list made stays; may change -/
def aLc (wi : TIa) (g : TGa) (tt : TTa) (te : TEa) (vs : List Nat) : TEa := fun e A Q => wi e A fun items keep A1 => ∀ D, A1 D = none → keep (updA A1 D (.lst [])) ∧ runLc keep g tt te (wipeA e vs) D (fun acc A2 => Q (.fl acc) (delA A2 D)) items [] (updA A1 D (.lst []))
def aLcM (wi : TIa) (g : TGa) (tt : TTa) (te : TEa) (vs : List Nat) : TEa := fun e A Q => wi e A fun items keep A1 => ∀ D, A1 D = none → keep (updA A1 D (.lst [])) ∧ runLc keep g tt te (wipeA e vs) D (fun acc A2 => Q (.ref D) A2) items [] (updA A1 D (.lst []))
theorem lc_use {K : PySem.W.Frag} {wi : TIa} {g : TG} {t : TGa} {tt : TTa} {te : TEa} {vs : List Nat} {σ : L2.St} {H : Hp} {Q : VK} (gl : GL K g t) (wp : Wip g vs) (mn : Mon g) (fin : Addr → List AV → AHp → (AV → AHp → Prop) → Prop)
    (hf : ∀ D acc A2 H2 (A : AHp) (H : Hp) (Q' : AV → AHp → Prop) (Q : VK), fin D acc A2 Q' → A2 D = some (.lst acc) → RH K A2 H2 → Step A H A2 H2 → Post K (RepV K) A H Q' Q → Q (.ref D) H2)
    (h : lfE K (fun e A Q => wi e A fun items keep A1 => ∀ D, A1 D = none → keep (updA A1 D (.lst [])) ∧ runLc keep t tt te (wipeA e vs) D (fun acc A2 => fin D acc A2 Q) items [] (updA A1 D (.lst []))) σ H Q) : tLc (lfI K wi) g (lfT K tt) (lfE K te) vs σ H Q := by
  obtain ⟨env, A, Q', re, g0, q, P⟩ := h
  refine ⟨env, A, _, re, g0, q, fun items keep A1 J H1 ok k1 g1 s1 q1 D hD => ?_⟩
  obtain ⟨k2, q2⟩ := q1 D (g1.noneA hD)
  have sD : Step A1 H1 (updA A1 D (.lst [])) (upd H1 D (.lst [])) := Step.new hD
  have gD : RH K (updA A1 D (.lst [])) (upd H1 D (.lst [])) := g1.new hD (show RepO K H1 A1 (.lst []) (.lst []) from ⟨[], rfl, .nil⟩)
  refine ⟨fun i m H' => m = items.length - i ∧ i ≤ items.length ∧ ∃ A' acc, RH K A' H' ∧ Step A1 H1 A' H' ∧ keep A' ∧ A' D = some (.lst acc) ∧ runLc keep t tt te (wipeA env vs) D (fun acc A2 => fin D acc A2 Q') (items.drop i) acc A',
    ⟨items.length, by simp, Nat.zero_le _, _, [], gD, sD, k2, updA_same, by rw [List.drop_zero]; exact q2⟩, ?_⟩
  rintro i m H' ⟨rfl, hi, A', acc, g', s', k', hA, q'⟩
  by_cases hlt : i < items.length
  · have ed : items.drop i = items[i] :: items.drop (i + 1) := List.drop_eq_getElem_cons hlt
    rw [ed] at q'
    refine .inr ⟨ok.go i A' H' s' k' g' hlt, fun H2 => ∃ A2 acc2, RH K A2 H2 ∧ Step A1 H1 A2 H2 ∧ keep A2 ∧ A2 D = some (.lst acc2) ∧ runLc keep t tt te (wipeA env vs) D (fun acc A2 => fin D acc A2 Q') (items.drop (i + 1)) acc2 A2, fun H2 ⟨A2, acc2, a1, a2, a3, a4, a5⟩ => ⟨items.length - (i + 1), by omega, rfl, hlt, A2, acc2, a1, a2, a3, a4, a5⟩, fun x H2 hy => ?_⟩
    obtain ⟨rx, g2, s2⟩ := ok.yld i A' H' x H2 items[i] s' k' g' (List.getElem?_eq_getElem hlt) hy
    have re2 : RepE K H2 A' (wipeA env vs) (wipe σ vs) := ((re.step s1).step (s'.trans s2)).wipe vs
    refine mn _ _ _ _ _ (wp _ _ _ _ (gl _ _ _ _ ⟨items[i], wipeA env vs, A', _, rx, re2, g2, q', fun e3 A3 σ3 H3 re3 g3 s3 q3 => ?_⟩)) (fun σ3 H3 ⟨e1, q3⟩ => ⟨e1.trans (wipe_wipe vs vs fun _ h => h), q3⟩)
    have sB : Step A1 H1 A3 H3 := s'.trans (s2.trans s3)
    refine ⟨e3, A3, _, re3, g3, q3, fun b A4 b' H4 hb g4 s4 q4 => ?_⟩
    subst hb
    cases b with
    | false =>
      obtain ⟨a1, a2, a3⟩ := q4
      exact ⟨A4, acc, g4, sB.trans s4, a2, a1, a3⟩
    | true =>
      refine ⟨e3, A4, _, re3.step s4, g4, q4, fun y A5 vy H5 ry g5 s5 ⟨a1, a2, a3, a4⟩ => ?_⟩
      obtain ⟨u, h1, ws, e2, h2⟩ := g5 D _ a1
      subst e2
      refine ⟨ws, h1, by rw [← h2.length]; exact a2, updA A5 D (.lst (acc ++ [y])), acc ++ [y], ?_, ?_, a3, updA_same, a4⟩
      · exact g5.put a1 (show RepO K H5 A5 (.lst (acc ++ [y])) (.lst (ws ++ [vy])) from ⟨_, rfl, h2.append (.cons ry .nil)⟩)
      · exact (sB.trans (s4.trans s5)).trans (Step.put a1)
  · have e : i = items.length := by omega
    subst e
    rw [List.drop_length] at q'
    exact .inl ⟨ok.stop _ A' H' s' k' g' (Nat.le_refl _), hf D acc A' H' A H Q' Q q'.2 q'.1 g' (s1.trans s') P⟩
theorem fin_fl {K : PySem.W.Frag} : ∀ D acc A2 H2 (A : AHp) (H : Hp) (Q' : AV → AHp → Prop) (Q : VK), Q' (.fl acc) (delA A2 D) → A2 D = some (.lst acc) → RH K A2 H2 → Step A H A2 H2 → Post K (RepV K) A H Q' Q → Q (.ref D) H2 := by
  intro D acc A2 H2 A H Q' Q q hA g s P
  obtain ⟨u, h1, ws, e2, h2⟩ := g D _ hA
  subst e2
  have sd : Step A2 H2 (delA A2 D) H2 := delA_sub.step
  exact P _ _ _ _ (.fl ⟨h1, delA_same⟩ (h2.step sd)) (g.sub delA_sub) (s.trans sd) q
theorem fin_ref {K : PySem.W.Frag} : ∀ D acc A2 H2 (A : AHp) (H : Hp) (Q' : AV → AHp → Prop) (Q : VK), Q' (.ref D) A2 → A2 D = some (.lst acc) → RH K A2 H2 → Step A H A2 H2 → Post K (RepV K) A H Q' Q → Q (.ref D) H2 :=
  fun D acc A2 H2 A H Q' Q q hA g s P => P _ _ _ _ (.ref D) g s q

section
variable {elt tg iter : Expr} {ifs : List Expr} {scope : Scope} {own : List (Str × Nat)} {pos spos py : Pos} {wi : TIa} {g : TG} {t : TGa} {tt : TTa} {te : TEa} {i : Nat} {y : Str}
theorem de_lc (hc : X.calm = true) (hN : X.N.Nodup) (hi : DI X tg iter wi) (ok : BlkOk X.N X.env.scope scope own) (gl : GL X.K g t) (wp : Wip g (own.map (·.2))) (mn : Mon g)
    (hg : ∀ (s : Shared) (H : Hp) (C : Addr) (cl : List (Str × Addr)) (fp : List Addr), PG (X.blk s H scope (compEnvC scope cl C X.env) fp) tg g) (ht : ∀ (s : Shared) (H : Hp) (C : Addr) (cl : List (Str × Addr)) (fp : List Addr), DTs (X.blk s H scope (compEnvC scope cl C X.env) fp) ifs tt)
    (he : ∀ (s : Shared) (H : Hp) (C : Addr) (cl : List (Str × Addr)) (fp : List Addr), DE (X.blk s H scope (compEnvC scope cl C X.env) fp) elt te) (hs : ∀ x, foldedSetIterable iter X.env x = pure x := by intro _; rfl) :
    DE X (.ListComp elt [⟨tg, iter, ifs, 0⟩] scope pos) (aLc wi t tt te (own.map (·.2))) :=
  pe_weak (pe_lc hc hN hi ok hg ht he hs) fun σ H Q h => lc_use gl wp mn (fun D acc A2 Q => Q (.fl acc) (delA A2 D)) fin_fl h
theorem de_lcM (hc : X.calm = true) (hN : X.N.Nodup) (hi : DI X tg iter wi) (ok : BlkOk X.N X.env.scope scope own) (gl : GL X.K g t) (wp : Wip g (own.map (·.2))) (mn : Mon g)
    (hg : ∀ (s : Shared) (H : Hp) (C : Addr) (cl : List (Str × Addr)) (fp : List Addr), PG (X.blk s H scope (compEnvC scope cl C X.env) fp) tg g) (ht : ∀ (s : Shared) (H : Hp) (C : Addr) (cl : List (Str × Addr)) (fp : List Addr), DTs (X.blk s H scope (compEnvC scope cl C X.env) fp) ifs tt)
    (he : ∀ (s : Shared) (H : Hp) (C : Addr) (cl : List (Str × Addr)) (fp : List Addr), DE (X.blk s H scope (compEnvC scope cl C X.env) fp) elt te) (hs : ∀ x, foldedSetIterable iter X.env x = pure x := by intro _; rfl) :
    DE X (.ListComp elt [⟨tg, iter, ifs, 0⟩] scope pos) (aLcM wi t tt te (own.map (·.2))) :=
  pe_weak (pe_lc hc hN hi ok hg ht he hs) fun σ H Q h => lc_use gl wp mn (fun D acc A2 Q => Q (.ref D) A2) fin_ref h
end

/-! ### statements -/
def sNext : TSa := fun D e A => D.nx e A
def sSeq (t u : TSa) : TSa := fun D e A => t { D with nx := fun e2 A2 => u D e2 A2 } e A
variable {st : Stmt} {rest : List Stmt} {ts us : TSa} {a b c e : Expr} {te : TEa} {pos : Pos}
theorem dss_nil : DSs X [] sNext := pss_weak pss_nil fun D σ H ⟨env, A, D', re, g, q, P⟩ => P.nx _ _ _ _ re g .refl q
theorem dss_cons (h1 : DS X st ts) (h2 : DSs X rest us) : DSs X (st :: rest) (sSeq ts us) := pss_weak (pss_cons h1 h2) fun D σ H ⟨env, A, D', re, g, q, P⟩ =>
  ⟨env, A, _, re, g, q, fun e2 A2 σ2 H2 re2 g2 s2 q2 => ⟨e2, A2, D', re2, g2, q2, P.trans s2⟩, P.rt, P.bk, P.ct, P.ex⟩
theorem dss_one (h1 : DS X st ts) : DSs X [st] ts := pss_one h1
def sBreak : TSa := fun D e A => D.bk e A
def sCont : TSa := fun D e A => D.ct e A
theorem ds_pass : DS X (.Pass pos) sNext := ps_weak ps_pass fun D σ H ⟨env, A, D', re, g, q, P⟩ => P.nx _ _ _ _ re g .refl q
theorem ds_break : DS X (.Break pos) sBreak := ps_weak ps_break fun D σ H ⟨env, A, D', re, g, q, P⟩ => P.bk _ _ _ _ re g .refl q
theorem ds_cont : DS X (.Continue pos) sCont := ps_weak ps_continue fun D σ H ⟨env, A, D', re, g, q, P⟩ => P.ct _ _ _ _ re g .refl q
def sNever : TSa := fun _ _ _ => False
theorem ds_never : DS X st sNever := ps_weak ps_never fun D σ H ⟨env, A, D', re, g, q, P⟩ => q.elim
def sDrop (te : TEa) : TSa := fun D e A => te e A fun _ A1 => D.nx e A1
theorem ds_expr (he : DE X e te) (hs : swapsWith e none pos.line X.env = pure false := by rfl) : DS X (.Expr e pos) (sDrop te) := ps_weak (ps_expr he hs) fun D σ H ⟨env, A, D', re, g, q, P⟩ =>
  ⟨env, A, _, re, g, q, fun v A1 u H1 r g1 s1 q1 => P.nx _ _ _ _ (re.step s1) g1 s1 q1⟩
def sRet (te : TEa) : TSa := fun D e A => te e A D.rt
theorem ds_ret (he : DE X e te) : DS X (.Return (some e) pos) (sRet te) := ps_weak (ps_ret he) fun D σ H ⟨env, A, D', re, g, q, P⟩ => ⟨env, A, _, re, g, q, fun v A1 u H1 r g1 s1 q1 => P.rt _ _ _ _ r g1 s1 q1⟩
def sRetN : TSa := fun D _ A => D.rt .non A
theorem ds_retN : DS X (.Return none pos) sRetN := ps_weak ps_retN fun D σ H ⟨env, A, D', re, g, q, P⟩ => P.rt _ _ _ _ .non g .refl q
def sIf (c : TTa) (t u : TSa) : TSa := fun D e A => c e A fun b A1 => if b = true then t D e A1 else u D e A1
theorem ds_if {c : Expr} {a b : List Stmt} {tc : TTa} (hc : DT X c tc) (ha : DSs X a ts) (hb : DSs X b us) : DS X (.If c a b pos) (sIf tc ts us) := ps_weak (ps_if hc ha hb) fun D σ H ⟨env, A, D', re, g, q, P⟩ =>
  ⟨env, A, _, re, g, q, fun k A1 k' H1 hk g1 s1 q1 => by
    subst hk
    cases k with
    | true => exact ⟨env, A1, D', re.step s1, g1, q1, P.trans s1⟩
    | false => exact ⟨env, A1, D', re.step s1, g1, q1, P.trans s1⟩⟩
def sAsg (te : TEa) (t : TGa) : TSa := fun D e A => te e A fun x A1 => t x e A1 D.nx
theorem asg_use {te : TEa} {g : TG} {t : TGa} {D : Ends} {σ : L2.St} {H : Hp} (gl : GL X.K g t) (h : lfS X (sAsg te t) D σ H) : tAsg (lfE X.K te) g D σ H := by
  obtain ⟨env, A, D', re, g0, q, P⟩ := h
  refine ⟨env, A, _, re, g0, q, fun x A1 v H1 rx g1 s1 q1 => ?_⟩
  exact gl _ _ _ _ ⟨x, env, A1, _, rx, re.step s1, g1, q1, fun e2 A2 σ2 H2 re2 g2 s2 q2 => P.nx _ _ _ _ re2 g2 (s1.trans s2) q2⟩
theorem ds_asg {tg : Expr} {g : TG} {t : TGa} (he : DE X e te) (hg : PG X tg g) (gl : GL X.K g t) (hs : swapsWithSole [tg] e pos.line X.env = pure false := by rfl) (hw : swappedStores [tg] e X.env = pure none := by rfl)
    (h1 : (assignEach [tg] X.env).map (·.2) = [assign tg X.env] := by rfl) : DS X (.Assign [tg] e pos) (sAsg te t) := ps_weak (ps_asg he hg hs hw h1) fun D σ H h => asg_use gl h
theorem ds_set {i : Nat} {x : Str} {pos' : Pos} (hN : X.N.Nodup) (hi : X.N[i]? = some x) (hx : Loc X.env.scope x) (he : DE X e te) (hs : swapsWith e (some (.Name x pos')) pos.line X.env = pure false := by rfl) (hf : X.fn x = true ∨ X.env.scope.names.lookup x = some .local := by first | exact .inl rfl | exact .inr rfl | assumption) :
    DS X (.Assign [.Name x pos'] e pos) (sAsg te (hName i)) := ps_weak (ps_set hN hi hx he hs hf) fun D σ H h => asg_use gl_name h
section
variable {elt tg iter : Expr} {ifs : List Expr} {scope : Scope} {own : List (Str × Nat)} {pos spos py : Pos} {wi : TIa} {g : TG} {t : TGa} {tt : TTa} {te : TEa} {i : Nat} {y : Str}
theorem ds_setLc (hc : X.calm = true) (hN : X.N.Nodup) (hy : X.N[i]? = some y) (hyl : X.env.scope.names.lookup y = some .local)
    (hsw : swapsWith (.ListComp elt [⟨tg, iter, ifs, 0⟩] scope pos) (some (.Name y py)) spos.line X.env = pure true) (hi : DI X tg iter wi) (ok : BlkOk X.N X.env.scope scope own) (gl : GL X.K g t) (wp : Wip g (own.map (·.2))) (mn : Mon g)
    (hg : ∀ (s : Shared) (H : Hp) (C : Addr) (cl : List (Str × Addr)) (fp : List Addr), PG (X.blk s H scope (compEnvC scope cl C X.env) fp) tg g) (ht : ∀ (s : Shared) (H : Hp) (C : Addr) (cl : List (Str × Addr)) (fp : List Addr), DTs (X.blk s H scope (compEnvC scope cl C X.env) fp) ifs tt)
    (he : ∀ (s : Shared) (H : Hp) (C : Addr) (cl : List (Str × Addr)) (fp : List Addr), DE (X.blk s H scope (compEnvC scope cl C X.env) fp) elt te) (hs : ∀ x, foldedSetIterable iter X.env x = pure x := by intro _; rfl) :
    DS X (.Assign [.Name y py] (.ListComp elt [⟨tg, iter, ifs, 0⟩] scope pos) spos) (sAsg (aLc wi t tt te (own.map (·.2))) (hName i)) :=
  ps_weak (ps_setLc hc hN hy hyl hsw hi ok hg ht he hs) fun D σ H h => by
    obtain ⟨env, A, D', re, g0, q, P⟩ := h
    have h2 : lfE X.K (aLc wi t tt te (own.map (·.2))) σ H (fun x H1 => gName i x σ H1 D.nx) := ⟨env, A, _, re, g0, q, fun x A1 v H1 rx g1 s1 q1 => P.nx _ _ _ _ (RepE.set (x := some x) (y := some v) rx i (re.step s1)) g1 s1 q1⟩
    exact lc_use gl wp mn (fun D acc A2 Q => Q (.fl acc) (delA A2 D)) fin_fl h2
theorem ds_setLcM (hc : X.calm = true) (hN : X.N.Nodup) (hy : X.N[i]? = some y) (hyl : X.env.scope.names.lookup y = some .local)
    (hsw : swapsWith (.ListComp elt [⟨tg, iter, ifs, 0⟩] scope pos) (some (.Name y py)) spos.line X.env = pure true) (hi : DI X tg iter wi) (ok : BlkOk X.N X.env.scope scope own) (gl : GL X.K g t) (wp : Wip g (own.map (·.2))) (mn : Mon g)
    (hg : ∀ (s : Shared) (H : Hp) (C : Addr) (cl : List (Str × Addr)) (fp : List Addr), PG (X.blk s H scope (compEnvC scope cl C X.env) fp) tg g) (ht : ∀ (s : Shared) (H : Hp) (C : Addr) (cl : List (Str × Addr)) (fp : List Addr), DTs (X.blk s H scope (compEnvC scope cl C X.env) fp) ifs tt)
    (he : ∀ (s : Shared) (H : Hp) (C : Addr) (cl : List (Str × Addr)) (fp : List Addr), DE (X.blk s H scope (compEnvC scope cl C X.env) fp) elt te) (hs : ∀ x, foldedSetIterable iter X.env x = pure x := by intro _; rfl) :
    DS X (.Assign [.Name y py] (.ListComp elt [⟨tg, iter, ifs, 0⟩] scope pos) spos) (sAsg (aLcM wi t tt te (own.map (·.2))) (hName i)) :=
  ps_weak (ps_setLc hc hN hy hyl hsw hi ok hg ht he hs) fun D σ H h => by
    obtain ⟨env, A, D', re, g0, q, P⟩ := h
    have h2 : lfE X.K (aLcM wi t tt te (own.map (·.2))) σ H (fun x H1 => gName i x σ H1 D.nx) := ⟨env, A, _, re, g0, q, fun x A1 v H1 rx g1 s1 q1 => P.nx _ _ _ _ (RepE.set (x := some x) (y := some v) rx i (re.step s1)) g1 s1 q1⟩
    exact lc_use gl wp mn (fun D acc A2 Q => Q (.ref D) A2) fin_ref h2
end
end
end D

set_option Elab.async false
set_option linter.all false
set_option maxRecDepth 100000
namespace D
open PySem PySem.Spec L2
section
variable {X : Cx} {o i e : Expr} {to ti te : TEa} {pos tpos : Pos}

/-! ### o[i] = v -/
abbrev TSeta := AV → AV → AV → AHp → (AHp → Prop) → Prop
def lfSet (K : PySem.W.Frag) (r : TSeta) : TSet := fun o i v H Q => ∃ ao ai av A Q', RepV K H A ao o ∧ RepV K H A ai i ∧ RepV K H A av v ∧ RH K A H ∧ r ao ai av A Q' ∧ ∀ A2 H2, RH K A2 H2 → Step A H A2 H2 → Q' A2 → Q H2
def putA (kvs : List (Key × AV)) (k : Key) (v : AV) : List (Key × AV) := if (kvs.any fun kv => decide (kv.1 = k)) = true then kvs.map fun kv => if kv.1 = k then (kv.1, v) else kv else kvs ++ [(k, v)]
theorem put_reps {K : PySem.W.Frag} {H : Hp} {A : AHp} {kvs : List (Key × AV)} {vs : List (Key × V)} {k : Key} {a : AV} {v : V} (r : RepKV K H A kvs vs) (ra : RepV K H A a v) : RepKV K H A (putA kvs k a) (putK vs k v) := by
  have hany : ∀ {kvs : List (Key × AV)} {vs : List (Key × V)}, RepKV K H A kvs vs → (kvs.any fun kv => decide (kv.1 = k)) = vs.any fun kv => decide (kv.1 = k) := by
    intro kvs vs r
    induction r with
    | nil => rfl
    | cons h t ih => rw [List.any_cons, List.any_cons, ih, h.1]
  have hmap : ∀ {kvs : List (Key × AV)} {vs : List (Key × V)}, RepKV K H A kvs vs → RepKV K H A (kvs.map fun kv => if kv.1 = k then (kv.1, a) else kv) (vs.map fun kv => if kv.1 = k then (kv.1, v) else kv) := by
    intro kvs vs r
    induction r with
    | nil => exact .nil
    | @cons p q _ _ h t ih =>
      refine .cons ?_ ih
      dsimp only
      rw [← h.1]
      by_cases e : p.1 = k
      · simp only [if_pos e]; exact ⟨trivial, ra⟩
      · simp only [if_neg e]; exact h
  have happ : ∀ {kvs : List (Key × AV)} {vs : List (Key × V)}, RepKV K H A kvs vs → RepKV K H A (kvs ++ [(k, a)]) (vs ++ [(k, v)]) := by
    intro kvs vs r
    induction r with
    | nil => exact .cons ⟨rfl, ra⟩ .nil
    | cons h t ih => exact .cons h ih
  unfold putA putK
  rw [hany r]
  split
  · exact hmap r
  · exact happ r
def setR : TSeta := fun o i v A Q => (∃ p xs k j, o = .ref p ∧ i = .int k ∧ A p = some (.lst xs) ∧ ixN xs.length k = some j ∧ Q (updA A p (.lst (xs.set j v)))) ∨
  ∃ p kvs k, o = .ref p ∧ keyA i = some k ∧ A p = some (.dct kvs) ∧ kvs.length < sizeLine ∧ Q (updA A p (.dct (putA kvs k v)))
theorem set_dict (hu : X.A.units + 1 < cLine) : PSet X (fun o i v H Q => ∃ a H4, o = .ref a ∧ DPut H a i v H4 ∧ Q H4) := by
  intro pins s σ H x y z xv yv zv Q I rx ry rz ⟨a, H4, e, g, q⟩
  subst e
  obtain rfl : xv = Value.ref a := rx
  exact d_setItem hu I g ry rz fun s4 I4 => ⟨H4, I4, q⟩
theorem st_set (hu : X.A.units + 1 < cLine) : PSet X (lfSet X.K setR) := by
  intro pins s σ H x y z xv yv zv Q I rx ry rz ⟨ao, ai, av, A, Q', ro, ri, rv, g, r, P⟩
  rcases r with ⟨p, xs, k, j, rfl, rfl, hA, hj, q⟩ | ⟨p, kvs, k, rfl, hk, hA, hl, q⟩
  · cases ro; cases ri
    obtain ⟨u, h1, vs, e2, h2⟩ := g p _ hA
    subst e2
    exact set_list pins s σ H _ _ z xv yv zv Q I rx ry rz ⟨p, vs, k, j, rfl, rfl, h1, by rw [← h2.length]; exact hj, P _ _ (g.put hA (show RepO X.K H A (.lst (xs.set j av)) (.lst (vs.set j z)) from ⟨_, rfl, h2.set rv j⟩)) (Step.put hA) q⟩
  · cases ro
    have e1 := keyA_ok ri hk
    subst e1
    obtain ⟨u, h1, vs, e2, h2⟩ := g p _ hA
    subst e2
    have hl2 : vs.length < sizeLine := by rw [← show kvs.length = vs.length from Paired.length h2]; exact hl
    exact set_dict hu pins s σ H _ _ z xv yv zv Q I rx ry rz ⟨p, _, rfl, DPut.k h1 hl2, P _ _ (g.put hA (show RepO X.K H A (.dct (putA kvs k av)) (.dK (putK vs k z)) from ⟨_, rfl, put_reps h2 rv⟩)) (Step.put hA) q⟩
def hSub (to ti : TEa) (r : TSeta) : TGa := fun v e A Q => to e A fun o A1 => ti e A1 fun i A2 => r o i v A2 fun A3 => Q e A3
theorem gl_sub {K : PySem.W.Frag} {r : TSeta} : GL K (gSub (lfE K to) (lfE K ti) (lfSet K r)) (hSub to ti r) := fun v σ H Q ⟨a, env, A, Q', ra, re, g, q, P⟩ =>
  ⟨env, A, _, re, g, q, fun o A1 ov H1 ro g1 s1 q1 => ⟨env, A1, _, re.step s1, g1, q1, fun i A2 iv H2 ri g2 s2 q2 =>
    ⟨o, i, a, A2, _, ro.step s2, ri, (ra.step s1).step s2, g2, q2, fun A3 H3 g3 s3 q3 => P _ _ _ _ (((re.step s1).step s2).step s3) g3 (s1.trans (s2.trans s3)) q3⟩⟩⟩

/-! ### op= -/
abbrev TIpa := AV → AV → AHp → (AV → AHp → Prop) → Prop
def lfIp (K : PySem.W.Frag) (r : TIpa) : TIp := lf2 K r
def ipAdd : TIpa := fun x y A Q => match x, y with
  | .int i, .int j => Q (.int (i + j)) A
  | _, _ => False
def ipSub : TIpa := fun x y A Q => match x, y with
  | .int i, .int j => Q (.int (i - j)) A
  | _, _ => False
theorem i_add : PIp X .Add (lfIp X.K ipAdd) := by
  intro pins s σ H x y v u Q I rx ry ⟨a, b, A, Q', ra, rb, g, r, P⟩
  cases ra <;> cases rb <;> first | exact r.elim | skip
  exact ip_add pins s σ H _ _ v u Q I rx ry ⟨_, _, rfl, rfl, P _ _ _ _ (.int _) g .refl r⟩
theorem i_sub : PIp X .Sub (lfIp X.K ipSub) := by
  intro pins s σ H x y v u Q I rx ry ⟨a, b, A, Q', ra, rb, g, r, P⟩
  cases ra <;> cases rb <;> first | exact r.elim | skip
  exact ip_sub pins s σ H _ _ v u Q I rx ry ⟨_, _, rfl, rfl, P _ _ _ _ (.int _) g .refl r⟩
def sAug (i : Nat) (te : TEa) (r : TIpa) : TSa := fun D e A => ∃ x, e[i]? = some (some x) ∧ te e A fun y A1 => r x y A1 fun z A2 => D.nx (e.set i (some z)) A2
theorem ds_aug {i : Nat} {x : Str} {e : Expr} {te : TEa} {op : Operator} {r : TIpa} {pos' : Pos} (hN : X.N.Nodup) (hi : X.N[i]? = some x) (hx : Loc X.env.scope x) (he : DE X e te) (ho : PIp X op (lfIp X.K r)) (hf : X.fn x = true ∨ X.env.scope.names.lookup x = some .local := by first | exact .inl rfl | exact .inr rfl | assumption) :
    DS X (.AugAssign (.Name x pos') op e pos) (sAug i te r) := ps_weak (ps_aug hN hi hx he ho hf) fun D σ H ⟨env, A, D', re, g, ⟨a, ea, q⟩, P⟩ => by
  obtain ⟨v, h1, h2⟩ := re.get ea
  exact ⟨v, h1, env, A, _, re, g, q, fun b A1 vb H1 rb g1 s1 q1 => ⟨a, b, A1, _, h2.step s1, rb, g1, q1, fun z A2 vz H2 rz g2 s2 q2 => P.nx _ _ _ _ (RepE.set (x := some z) (y := some vz) rz i ((re.step s1).step s2)) g2 (s1.trans s2) q2⟩⟩
/-- o[i], by getItem -/
def lfGet (K : PySem.W.Frag) (r : TIpa) : V → V → Hp → VK → Prop := lf2 K r
def getR : TIpa := fun x y A Q => (∃ p xs k v, x = .ref p ∧ y = .int k ∧ A p = some (.lst xs) ∧ 0 ≤ k ∧ xs[k.toNat]? = some v ∧ Q v A) ∨ ∃ kvs k v, dcOf A x = some kvs ∧ keyA y = some k ∧ valA kvs k = some v ∧ Q v A
theorem get_all (hu : X.A.units + 1 < cLine) : PGet X (lfGet X.K getR) := by
  intro pins s σ H x y v u Q I rx ry ⟨a, b, A, Q', ra, rb, g, r, P⟩
  rcases r with ⟨p, xs, k, w, rfl, rfl, hA, h0, hat, q⟩ | ⟨kvs, k, w, hk, hb, hv, q⟩
  · cases ra; cases rb
    obtain ⟨u2, h1, vs, e2, h2⟩ := g p _ hA
    subst e2
    obtain ⟨wv, h3, h4⟩ := h2.get hat
    obtain rfl : v = Value.ref p := rx
    obtain ⟨t, rfl⟩ := ry
    obtain ⟨its, rv, pl, hz⟩ := I.list (SqL.of (K := X.K) h1)
    obtain ⟨uu, hu1, ru⟩ := rv.get h3
    have hlt : k.toNat < vs.length := (List.getElem?_eq_some_iff.mp h3).1
    have hn := line63
    exact PySem.wpAny_getItem_list pl.isList h0 (by omega) (by simpa using hu1) ⟨wv, H, I, ru, P _ _ _ _ h4 g .refl q⟩
  · obtain ⟨p, vs, rfl, rfl, hA, hH, rk⟩ := dcOf_ok ra g hk
    have e1 := keyA_ok rb hb
    subst e1
    obtain ⟨wv, h1, h2⟩ := valA_get rk hv
    obtain rfl : v = Value.ref p := rx
    exact d_getItem hu I (by rw [← h1]; exact DGet.k hH) ry fun w' s' I' rw => ⟨wv, H, I', rw, P _ _ _ _ h2 g .refl q⟩
def sAugS (to ti te : TEa) (rg : TIpa) (rp : TIpa) (rs : TSeta) : TSa := fun D e A => to e A fun o A1 => ti e A1 fun i A2 => rg o i A2 fun x A3 => te e A3 fun y A4 => rp x y A4 fun z A5 => rs o i z A5 fun A6 => D.nx e A6
theorem ds_augS {op : Operator} {rg rp : TIpa} {rs : TSeta} (ho : DE X o to) (hi : DE X i ti) (hg : PGet X (lfGet X.K rg)) (he : DE X e te) (hp : PIp X op (lfIp X.K rp)) (hs : PSet X (lfSet X.K rs))
    (ha : ∀ ov iv new, augStore i ov iv new = (do holding [new, ov, iv] (setItem ov iv new); release [new, ov, iv] []; pure .next) := by intros; rfl) : DS X (.AugAssign (.Subscript o i tpos) op e pos) (sAugS to ti te rg rp rs) :=
  ps_weak (ps_augS ho hi hg he hp hs ha) fun D σ H ⟨env, A, D', re, g, q, P⟩ =>
    ⟨env, A, _, re, g, q, fun o A1 ov H1 ro g1 s1 q1 => ⟨env, A1, _, re.step s1, g1, q1, fun i A2 iv H2 ri g2 s2 q2 =>
      ⟨o, i, A2, _, ro.step s2, ri, g2, q2, fun x A3 xv H3 rx g3 s3 q3 => ⟨env, A3, _, ((re.step s1).step s2).step s3, g3, q3, fun y A4 yv H4 ry g4 s4 q4 =>
        ⟨x, y, A4, _, rx.step s4, ry, g4, q4, fun z A5 zv H5 rz g5 s5 q5 => ⟨o, i, z, A5, _, (((ro.step s2).step s3).step s4).step s5, ((ri.step s3).step s4).step s5, rz, g5, q5, fun A6 H6 g6 s6 q6 =>
          P.nx _ _ _ _ (re.step (s1.trans (s2.trans (s3.trans (s4.trans (s5.trans s6)))))) g6 (s1.trans (s2.trans (s3.trans (s4.trans (s5.trans s6))))) q6⟩⟩⟩⟩⟩⟩

/-! ### a, b = x, y with plain names -/
def sPar (i j : Nat) (ta : TAa) : TSa := fun D e A => ta e A fun vs A1 => ∃ v w, vs = [v, w] ∧ D.nx ((e.set i (some v)).set j (some w)) A1
def sPar3 (i j l : Nat) (ta : TAa) : TSa := fun D e A => ta e A fun vs A1 => ∃ u v w, vs = [u, v, w] ∧ D.nx (((e.set i (some u)).set j (some v)).set l (some w)) A1
theorem ds_par {i j : Nat} {x y : Str} {a b : Expr} {ta : TAa} {px py pt : Pos} {kt k2 pt2} (hc : X.calm = true) (hN : X.N.Nodup) (hi : X.N[i]? = some x) (hj : X.N[j]? = some y) (hij : i ≠ j)
    (hx : X.env.scope.names.lookup x = some .local) (hy : X.env.scope.names.lookup y = some .local) (ha : DA X [a, b] ta)
    (hw : swappedStores [.Tuple [.Name x px, .Name y py] kt pt] (.Tuple [a, b] k2 pt2) X.env = pure (some [x, y]))
    (hs : swapsWithSole [.Tuple [.Name x px, .Name y py] kt pt] (.Tuple [a, b] k2 pt2) pos.line X.env = pure false := by rfl) :
    DS X (.Assign [.Tuple [.Name x px, .Name y py] kt pt] (.Tuple [a, b] k2 pt2) pos) (sPar i j ta) := ps_weak (ps_par hc hN hi hj hij hx hy ha hw hs) fun D σ H ⟨env, A, D', re, g, q, P⟩ =>
  ⟨env, A, _, re, g, q, fun vs A1 us H1 rs g1 s1 ⟨v, w, e, q1⟩ => by
    subst e
    obtain ⟨v', w', rfl, r1, r2⟩ := reps2 rs
    exact ⟨v', w', rfl, P.nx _ _ _ _ (RepE.set (x := some w) (y := some w') r2 j (RepE.set (x := some v) (y := some v') r1 i (re.step s1))) g1 s1 q1⟩⟩
theorem ds_par3 {i j l : Nat} {x y z : Str} {a b c : Expr} {ta : TAa} {px py pz pt : Pos} {kt k2 pt2} (hc : X.calm = true) (hN : X.N.Nodup) (hi : X.N[i]? = some x) (hj : X.N[j]? = some y) (hl : X.N[l]? = some z) (hij : i ≠ j) (hil : i ≠ l) (hjl : j ≠ l)
    (hx : X.env.scope.names.lookup x = some .local) (hy : X.env.scope.names.lookup y = some .local) (hz : X.env.scope.names.lookup z = some .local) (ha : DA X [a, b, c] ta)
    (hw : swappedStores [.Tuple [.Name x px, .Name y py, .Name z pz] kt pt] (.Tuple [a, b, c] k2 pt2) X.env = pure (some [x, y, z]))
    (hs : swapsWithSole [.Tuple [.Name x px, .Name y py, .Name z pz] kt pt] (.Tuple [a, b, c] k2 pt2) pos.line X.env = pure false := by rfl) :
    DS X (.Assign [.Tuple [.Name x px, .Name y py, .Name z pz] kt pt] (.Tuple [a, b, c] k2 pt2) pos) (sPar3 i j l ta) := ps_weak (ps_par3 hc hN hi hj hl hij hil hjl hx hy hz ha hw hs) fun D σ H ⟨env, A, D', re, g, q, P⟩ =>
  ⟨env, A, _, re, g, q, fun vs A1 us H1 rs g1 s1 ⟨u, v, w, e, q1⟩ => by
    subst e
    obtain ⟨u', v', w', rfl, r0, r1, r2⟩ := reps3 rs
    exact ⟨u', v', w', rfl, P.nx _ _ _ _ (RepE.set (x := some w) (y := some w') r2 l (RepE.set (x := some v) (y := some v') r1 j (RepE.set (x := some u) (y := some u') r0 i (re.step s1)))) g1 s1 q1⟩⟩

/-! ### methods of lists -/
abbrev RMa := AV → List AV → AHp → (AV → AHp → Prop) → Prop
def lfM (K : PySem.W.Frag) (r : RMa) : V → List V → Hp → VK → Prop := fun x vs H Q => ∃ a as A Q', RepV K H A a x ∧ RepVs K H A as vs ∧ RH K A H ∧ r a as A Q' ∧ Post K (RepV K) A H Q' Q
theorem mtR_weak {id : String} {r r' : V → List V → Hp → VK → Prop} (h : MtR X id r) (w : ∀ x xs H Q, r' x xs H Q → r x xs H Q) : MtR X id r' := fun pins s σ H x xs v us Q I rx rs q => h pins s σ H x xs v us Q I rx rs (w _ _ _ _ q)
/-- the value is a list -/
def isLs (A : AHp) (x : AV) : Prop := ∃ xs, lsOf A x = some xs
variable {es : List Expr} {t : TAa} {name : Str} {apos cpos : Pos} {id : String} {r : RMa}
def aML (r : RMa) (to : TEa) (t : TAa) : TEa := fun e A Q => to e A fun x A1 => isLs A1 x ∧ t e A1 fun xs A2 => r x xs A2 Q
def aML0 (r : RMa) (to : TEa) : TEa := fun e A Q => to e A fun x A1 => isLs A1 x ∧ r x [] A1 Q
theorem isLs_ty {K : PySem.W.Frag} {H : Hp} {A : AHp} {x : AV} {v : V} (rx : RepV K H A x v) (g : RH K A H) (h : isLs A x) : tyV K "list" v H := by
  obtain ⟨xs, h⟩ := h
  obtain ⟨p, vs, rfl, hs, _⟩ := lsOf_ok rx g h
  exact .inl ⟨rfl, vs, hs⟩
theorem de_ml (slot : Slot "list" name id) (hty : typeOf (.builtin id) = pure (.type "method_descriptor")) (hm : MtR X id (lfM X.K r)) (ho : DE X o to) (ha : DA X (e :: es) t)
    (hbase : attributeBase o name X.env (eval o X.env) = eval o X.env := by rfl)
    (hfew : ((backTo cpos (starEach (e :: es) X.env)).all (fun x => !x.1) && (backToKw cpos (keywordEach [] X.env)).all (fun x => x.1.isSome)
      && decide ((e :: es).length + ([] : List Keyword).length + (if ([] : List Keyword).isEmpty then 0 else 1) < 30)) = true := by rfl)
    (hline : (apos.endLine == cpos.line) = true := by rfl) (hs : starEach (e :: es) X.env = (false, eval e X.env) :: starEach es X.env := by rfl) (hplain : (backTo cpos (starEach es X.env)).any (·.1) = false := by rfl) :
    DE X (.Call (.Attribute o name apos) (e :: es) [] cpos) (aML r to t) :=
  pe_weak (pe_bm PySem.F.plainAttrs_list slot hty hm ho ha hbase hfew hline hs hplain) fun σ H Q ⟨env, A, Q', re, g, q, P⟩ => ⟨env, A, _, re, g, q, fun x A1 v H1 rx g1 s1 ⟨hl, q1⟩ =>
    ⟨isLs_ty rx g1 hl, env, A1, _, re.step s1, g1, q1, fun xs A2 vs H2 rs g2 s2 q2 => ⟨x, xs, A2, Q', rx.step s2, rs, g2, q2, P.trans (s1.trans s2)⟩⟩⟩
theorem de_ml0 (slot : Slot "list" name id) (hty : typeOf (.builtin id) = pure (.type "method_descriptor")) (hm : MtR X id (lfM X.K r)) (ho : DE X o to)
    (hbase : attributeBase o name X.env (eval o X.env) = eval o X.env := by rfl) (hline : (apos.endLine == cpos.line) = true := by rfl) :
    DE X (.Call (.Attribute o name apos) [] [] cpos) (aML0 r to) :=
  pe_weak (pe_bm0 PySem.F.plainAttrs_list slot hty hm ho hbase hline) fun σ H Q ⟨env, A, Q', re, g, q, P⟩ => ⟨env, A, _, re, g, q, fun x A1 v H1 rx g1 s1 ⟨hl, q1⟩ =>
    ⟨isLs_ty rx g1 hl, x, [], A1, Q', rx, .nil, g1, q1, P.trans s1⟩⟩
def mAppend : RMa := fun x vs A Q => ∃ p xs y, x = .ref p ∧ vs = [y] ∧ A p = some (.lst xs) ∧ xs.length < sizeLine ∧ Q .non (updA A p (.lst (xs ++ [y])))
theorem m_append : MtR X "list.append" (lfM X.K mAppend) := mtR_weak mt_append fun x vs H Q ⟨a, as, A, Q', rx, rs, g, ⟨p, xs, y, e1, e2, hA, hl, q⟩, P⟩ => by
  subst e1 e2
  cases rx
  obtain ⟨v, rfl, rv⟩ := reps1 rs
  obtain ⟨u, h1, ws, e3, h2⟩ := g p _ hA
  subst e3
  exact ⟨p, ws, v, rfl, rfl, h1, by rw [← h2.length]; exact hl, P _ _ _ _ .non (g.put hA (show RepO X.K H A (.lst (xs ++ [y])) (.lst (ws ++ [v])) from ⟨_, rfl, h2.append (.cons rv .nil)⟩)) (Step.put hA) q⟩
def mPopAt : RMa := fun x vs A Q => ∃ p xs i k y, x = .ref p ∧ vs = [.int i] ∧ A p = some (.lst xs) ∧ -(2 ^ 63) ≤ i ∧ i < 2 ^ 63 ∧ seqIndex? i xs.length = some k ∧ xs[k]? = some y ∧ Q y (updA A p (.lst (xs.eraseIdx k)))
theorem m_popAt : MtR X "list.pop" (lfM X.K mPopAt) := mtR_weak mt_popAt fun x vs H Q ⟨a, as, A, Q', rx, rs, g, ⟨p, xs, i, k, y, e1, e2, hA, h3, h4, h5, h6, q⟩, P⟩ => by
  subst e1 e2
  cases rx
  obtain ⟨v, rfl, rv⟩ := reps1 rs
  cases rv
  obtain ⟨u, h1, ws, e3, h2⟩ := g p _ hA
  subst e3
  obtain ⟨yv, h7, h8⟩ := h2.get h6
  have st : Step A H (updA A p (.lst (xs.eraseIdx k))) (upd H p (.lst (ws.eraseIdx k))) := Step.put hA
  exact ⟨p, ws, i, k, yv, rfl, rfl, h1, h3, h4, by rw [← h2.length]; exact h5, h7, P _ _ _ _ (h8.step st) (g.put hA (show RepO X.K H A (.lst (xs.eraseIdx k)) (.lst (ws.eraseIdx k)) from ⟨_, rfl, h2.eraseIdx k⟩)) st q⟩
def mPop : RMa := fun x vs A Q => ∃ p xs y, x = .ref p ∧ vs = [] ∧ A p = some (.lst xs) ∧ xs[xs.length - 1]? = some y ∧ Q y (updA A p (.lst xs.dropLast))
theorem m_pop : MtR X "list.pop" (lfM X.K mPop) := mtR_weak mt_pop fun x vs H Q ⟨a, as, A, Q', rx, rs, g, ⟨p, xs, y, e1, e2, hA, h6, q⟩, P⟩ => by
  subst e1 e2
  cases rx
  cases rs
  obtain ⟨u, h1, ws, e3, h2⟩ := g p _ hA
  subst e3
  obtain ⟨yv, h7, h8⟩ := h2.get h6
  have st : Step A H (updA A p (.lst xs.dropLast)) (upd H p (.lst ws.dropLast)) := Step.put hA
  exact ⟨p, ws, yv, rfl, rfl, h1, by rw [← h2.length]; exact h7, P _ _ _ _ (h8.step st) (g.put hA (show RepO X.K H A (.lst xs.dropLast) (.lst ws.dropLast) from ⟨_, rfl, h2.dropLast⟩)) st q⟩
/-- xs.index(y), there -/
def firstAt (fs : List V) (f : V) : Option Nat := fs.findIdx? fun z => eqV z f
def mIndex : RMa := fun x vs A Q => ∃ xs y f fs j, vs = [y] ∧ lsOf A x = some xs ∧ flA y = some f ∧ flAs xs = some fs ∧ firstAt fs f = some j ∧ Q (.int (j : Nat)) A
theorem m_index : MtR X "list.index" (lfM X.K mIndex) := mtR_weak mt_index fun x vs H Q ⟨a, as, A, Q', rx, rs, g, ⟨xs, y, f, fs, j, e1, h1, h2, h3, h4, q⟩, P⟩ => by
  subst e1
  obtain ⟨v, rfl, rv⟩ := reps1 rs
  obtain ⟨p, ws, rfl, hs, r2⟩ := lsOf_ok rx g h1
  obtain ⟨e2, e3⟩ := flA_ok rv h2
  obtain ⟨e4, e5⟩ := flAs_ok r2 h3
  subst e2 e4
  obtain ⟨hj, h5, h6⟩ := List.findIdx?_eq_some_iff_getElem.mp h4
  refine ⟨p, ws, v, j, ws[j], rfl, rfl, hs, e3, e5, List.getElem?_eq_getElem hj, h5, fun m z hm hz => ?_, P _ _ _ _ (.int _) g .refl q⟩
  obtain ⟨hl, ez⟩ := List.getElem?_eq_some_iff.mp hz
  have h7 := h6 m hm
  rw [ez] at h7
  simpa using h7
/-- sep.join(texts) -/
def str1 : AV → Option Str
  | .str i => some i
  | _ => none
def aStrs : List AV → Option (List Str)
  | [] => some []
  | x :: xs => (str1 x).bind fun i => (aStrs xs).map fun is => i :: is
theorem aStrs_map (ns : List Str) : aStrs (ns.map AV.str) = some ns := by
  induction ns with
  | nil => rfl
  | cons x r ih => rw [List.map_cons, aStrs, ih]; rfl
theorem aStrs_eq : ∀ {xs : List AV} {ns : List Str}, aStrs xs = some ns → xs = ns.map AV.str
  | [], _, h => by cases h; rfl
  | x :: xs, ns, h => by
    obtain ⟨i, h1, h2⟩ := Option.bind_eq_some_iff.mp h
    obtain ⟨is, h3, rfl⟩ := Option.map_eq_some_iff.mp h2
    rw [List.map_cons, ← aStrs_eq h3]
    cases x <;> cases h1
    rfl
def aJoin (to te : TEa) : TEa := fun e A Q => to e A fun x A1 => ∃ a, x = .str a ∧ te e A1 fun y A2 => ∃ ys ss, sqOf A2 y = some ys ∧ aStrs ys = some ss ∧ (ss.map (·.length)).sum + ss.length * a.length ≤ 16777216 ∧ Q (.str (Txt.join a ss)) A2
theorem de_join (ho : DE X o to) (he : DE X e te) (hs : starEach [e] X.env = [(false, eval e X.env)] := by rfl) (hbase : attributeBase o "join" X.env (eval o X.env) = eval o X.env := by rfl) (hline : (apos.endLine == pos.line) = true := by rfl) :
    DE X (.Call (.Attribute o "join" apos) [e] [] pos) (aJoin to te) := pe_weak (pe_join ho he hs hbase hline) fun σ H Q ⟨env, A, Q', re, g, q, P⟩ =>
  ⟨env, A, _, re, g, q, fun x A1 v H1 rx g1 s1 ⟨a, e1, q1⟩ => by
    subst e1
    cases rx
    refine ⟨⟨a, rfl⟩, env, A1, _, re.step s1, g1, q1, fun y A2 w H2 ry g2 s2 ⟨ys, ss, h1, h2, h3, q2⟩ => ?_⟩
    obtain ⟨p, ws, rfl, hs, rs⟩ := sqOf_ok ry g2 h1
    have e2 := aStrs_eq h2
    subst e2
    have e3 := repVs_strs rs
    subst e3
    exact ⟨a, p, ss, rfl, rfl, hs, h3, P _ _ _ _ (.str _) g2 (s1.trans s2) q2⟩⟩

/-! ### a dict's display -/
def aPairs : List (TEa × TEa) → AEnv → AHp → (List (AV × AV) → AHp → Prop) → Prop
  | [], _, A, Q => Q [] A
  | (tk, tv) :: r, e, A, Q => tk e A fun k A1 => tv e A1 fun v A2 => aPairs r e A2 fun ps A3 => Q ((k, v) :: ps) A3
def keysA : List (AV × AV) → Option (List (Key × AV))
  | [] => some []
  | (k, v) :: r => (keyA k).bind fun k' => (keysA r).map fun r' => (k', v) :: r'
def mergeA (kvs more : List (Key × AV)) : List (Key × AV) := more.foldl (fun acc kv => putA acc kv.1 kv.2) kvs
/-- the dict stands empty while its entries are reckoned -/
def aDisp (trs : List (TEa × TEa)) : TEa := fun e A Q => ∀ p, A p = none → aPairs trs e (updA A p (.dct [])) fun ps A2 => A2 p = some (.dct []) ∧ ∃ kvs, keysA ps = some kvs ∧ kvs.length ≤ 15 ∧ Q (.ref p) (updA A2 p (.dct (mergeA [] kvs)))
def lfPs (K : PySem.W.Frag) : List (TEa × TEa) → List (TE × TE) := List.map fun p => (lfE K p.1, lfE K p.2)
def RPs (K : PySem.W.Frag) (H : Hp) (A : AHp) : List (AV × AV) → List (V × V) → Prop := Paired fun p q => RepV K H A p.1 q.1 ∧ RepV K H A p.2 q.2
theorem RPs.step {K : PySem.W.Frag} {H H' : Hp} {A A' : AHp} {as : List (AV × AV)} {vs : List (V × V)} (s : Step A H A' H') (h : RPs K H A as vs) : RPs K H' A' as vs := Paired.mapP h fun _ _ q => ⟨q.1.step s, q.2.step s⟩
theorem pairs_use {K : PySem.W.Frag} {σ : L2.St} {env : AEnv} : ∀ (trs : List (TEa × TEa)) {A : AHp} {H : Hp} {Q' : List (AV × AV) → AHp → Prop} {Q : List (V × V) → Hp → Prop}, RepE K H A env σ → RH K A H → aPairs trs env A Q' → Post K (RPs K) A H Q' Q → tPairs (lfPs K trs) σ H Q
  | [], A, H, Q', Q, re, g, q, P => P _ _ _ _ .nil g .refl q
  | (tk, tv) :: r, A, H, Q', Q, re, g, q, P => ⟨env, A, _, re, g, q, fun k A1 kv H1 rk g1 s1 q1 => ⟨env, A1, _, re.step s1, g1, q1, fun v A2 vv H2 rv g2 s2 q2 =>
      pairs_use r ((re.step s1).step s2) g2 q2 fun ps A3 vs H3 rs g3 s3 q3 => P _ _ _ _ (.cons ⟨(rk.step s2).step s3, rv.step s3⟩ rs) g3 (s1.trans (s2.trans s3)) q3⟩⟩
theorem keysA_ok {K : PySem.W.Frag} {H : Hp} {A : AHp} : ∀ {ps : List (AV × AV)} {vs : List (V × V)} {kvs : List (Key × AV)}, RPs K H A ps vs → keysA ps = some kvs → ∃ ks : List (Key × V), vs = ks.map (fun kv => (kV kv.1, kv.2)) ∧ RepKV K H A kvs ks
  | _, _, _, .nil, h => by cases h; exact ⟨[], rfl, .nil⟩
  | _, _, _, .cons (a := p) (b := q) r t, h => by
    obtain ⟨k, h1, h2⟩ := Option.bind_eq_some_iff.mp h
    obtain ⟨rr, h3, rfl⟩ := Option.map_eq_some_iff.mp h2
    obtain ⟨ks, e1, r2⟩ := keysA_ok t h3
    have e2 := keyA_ok r.1 h1
    refine ⟨(k, q.2) :: ks, ?_, .cons ⟨rfl, r.2⟩ r2⟩
    rw [List.map_cons, ← e1, ← e2]
theorem merge_reps {K : PySem.W.Frag} {H : Hp} {A : AHp} : ∀ {more : List (Key × AV)} {m2 : List (Key × V)} {kvs : List (Key × AV)} {vs : List (Key × V)}, RepKV K H A more m2 → RepKV K H A kvs vs → RepKV K H A (mergeA kvs more) (mergeK vs m2)
  | _, _, _, _, .nil, r => r
  | _, _, kvs, vs, .cons (a := p) (b := q) h t, r => by
    have h2 := put_reps (k := p.1) r h.2
    rw [h.1] at h2
    have h3 := merge_reps t h2
    show RepKV K H A (mergeA (putA kvs p.1 p.2) _) (mergeK (putK vs q.1 q.2) _)
    rw [h.1]
    exact h3
abbrev DPs (X : Cx) (pos : Pos) (keys : List (Option Expr)) (values : List Expr) (trs : List (TEa × TEa)) : Prop := PPs X pos keys values (lfPs X.K trs)
theorem dps_nil : DPs X pos [] [] [] := pps_nil
theorem dps_cons {k v : Expr} {ks : List (Option Expr)} {vs : List Expr} {tk tv : TEa} {trs : List (TEa × TEa)} (hk : DE X k tk) (hv : DE X v tv) (hr : DPs X pos ks vs trs) : DPs X pos (some k :: ks) (v :: vs) ((tk, tv) :: trs) := pps_cons hk hv hr
theorem de_disp {keys : List (Option Expr)} {values : List Expr} {trs : List (TEa × TEa)} (h : DPs X pos keys values trs) (hall : keys.all (·.isSome) = true) (hl : keys.length = values.length) (h0 : keys ≠ [])
    (h15 : keys.length ≤ 15) : DE X (.Dict keys values pos) (aDisp trs) := pe_weak (pe_disp h hall hl h0 h15) fun σ H Q ⟨env, A, Q', re, g, q, P⟩ p hp => by
  have hA := g.noneA hp
  have s1 : Step A H (updA A p (.dct [])) (upd H p (.dK [])) := Step.new hp
  have g1 : RH X.K (updA A p (.dct [])) (upd H p (.dK [])) := g.new hp (show RepO X.K H A (.dct []) (.dK []) from ⟨[], rfl, .nil⟩)
  refine pairs_use trs (re.step s1) g1 (q p hA) fun ps A2 vs H2 rs g2 s2 ⟨hA2, kvs, hk, hlen, q2⟩ => ?_
  obtain ⟨u, h1, ws, e2, h2⟩ := g2 p _ hA2
  subst e2
  cases h2
  obtain ⟨ks, e3, rk⟩ := keysA_ok rs hk
  refine ⟨h1, ks, e3, by rw [← show kvs.length = ks.length from Paired.length rk]; exact hlen, P _ _ _ _ (.ref p) (g2.put hA2 (show RepO X.K H2 A2 (.dct (mergeA [] kvs)) (.dK (mergeK [] ks)) from ⟨_, rfl, merge_reps rk .nil⟩)) ((s1.trans s2).trans (Step.put hA2)) q2⟩
end

/-! ### a def and its promise -/
mutual
inductive Conv (A A2 : AHp) : AV → AV → Prop
  | same (a : AV) : Conv A A2 a a
  | frz {p : Addr} {xs ys : List AV} : A p = some (.lst xs) → A2 p = none → Convs A A2 xs ys → Conv A A2 (.ref p) (.fl ys)
  | tup {xs ys : List AV} : Convs A A2 xs ys → Conv A A2 (.tup xs) (.tup ys)
  | fl {xs ys : List AV} : Convs A A2 xs ys → Conv A A2 (.fl xs) (.fl ys)
inductive Convs (A A2 : AHp) : List AV → List AV → Prop
  | nil : Convs A A2 [] []
  | cons {x y : AV} {xs ys : List AV} : Conv A A2 x y → Convs A A2 xs ys → Convs A A2 (x :: xs) (y :: ys)
end
mutual
theorem RepV.conv {K : PySem.W.Frag} {H : Hp} {A A2 : AHp} (s : SubA A2 A) (g : RH K A H) : ∀ {a b : AV} {v : V}, Conv A A2 a b → RepV K H A a v → RepV K H A2 b v
  | _, _, _, .same a, r => r.step s.step
  | _, _, _, .frz (p := p) h1 h2 h3, .ref _ => by
    obtain ⟨u, h4, vs, e, h5⟩ := g p _ h1
    subst e
    exact .fl ⟨h4, h2⟩ (RepVs.conv s g h3 h5)
  | _, _, _, .tup h3, .tup f r => .tup (f.step s.step) (RepVs.conv s g h3 r)
  | _, _, _, .fl h3, .fl f r => .fl (s.step _ _ f.1 f.2) (RepVs.conv s g h3 r)
theorem RepVs.conv {K : PySem.W.Frag} {H : Hp} {A A2 : AHp} (s : SubA A2 A) (g : RH K A H) : ∀ {as bs : List AV} {vs : List V}, Convs A A2 as bs → RepVs K H A as vs → RepVs K H A2 bs vs
  | _, _, _, .nil, .nil => .nil
  | _, _, _, .cons h t, .cons r rs => .cons (RepV.conv s g h r) (RepVs.conv s g t rs)
end
/-- what is handed back may be finished, and what nobody needs forgotten -/
def Cv (Q : AV → AHp → Prop) : AV → AHp → Prop := fun a A => ∃ b A2, SubA A2 A ∧ Conv A A2 a b ∧ Q b A2
theorem Cv.post {K : PySem.W.Frag} {A : AHp} {H : Hp} {Q' : AV → AHp → Prop} {Q : VK} (P : Post K (RepV K) A H Q' Q) : Post K (RepV K) A H (Cv Q') Q := fun a A1 v H1 r g s ⟨b, A2, sb, cv, q⟩ =>
  P b A2 v H1 (RepV.conv sb g cv r) (g.sub sb) (s.trans sb.step) q
theorem Cv.of {Q : AV → AHp → Prop} {a : AV} {A : AHp} (h : Q a A) : Cv Q a A := ⟨a, A, .refl A, .same a, h⟩
theorem Cv.drop {Q : AV → AHp → Prop} {a : AV} {A A2 : AHp} (s : SubA A2 A) (h : Q a A2) : Cv Q a A := ⟨a, A2, s, .same a, h⟩
section
variable {P : Program} {w : World} {K : PySem.W.Frag} {mg : Str → Option Value} {base : Heap}
def startA (N : List Str) (as : List AV) : AEnv := as.map some ++ List.replicate (N.length - as.length) none
theorem fnG_of {name qual : Str} {pr : Arguments} {body : List Stmt} {sc : Scope} {dV kV doc pm cdv ct oc : Value} {an od : Option Addr} {osl : Array (Option Value)} {f : Addr} {N ps : List Str} {k : Nat} {sp : Sp}
    (lk : K.lookup f = some ⟨oc, od, .func (PySem.W.fnOf name qual pr body sc dV kV doc pm an cdv ct), osl⟩) (hcd : PySem.W.codeIn K cdv qual = true) (S : FnScope N ps sc) (len : ∀ vs H Q E, sp vs H Q E → vs.length = ps.length)
    (hbody : ∀ (A : Around) (ot : List Env) (s : Shared) (H : Hp) (vs : List V) (Q : VK) (E : XK), RoomG k (A.deeper (PyProof.Rows.envOfC qual sc s.heap.objs.size f cdv)) → sp vs H Q E →
      ∃ t, PSs (cxOf (L2.CX P w) P w K mg base N qual sc f cdv A ot s H E) body t ∧ t { nx := fun _ H' => Q .non H', rt := Q } (start N vs) H) :
    FnG P w K mg base (k + 1) f (PySem.W.fnOf name qual pr body sc dV kV doc pm an cdv ct) ps sp := by
  refine ⟨len, fun A ot s H ar us vs Q E room e0 hb rel wish => ?_⟩
  have hlen := len vs H Q E wish
  have kIn : K.In s.heap := e0.mod.kin.keeps fun b o e => (e0.bs b o e).1
  have noLim : s.heap.NoLimit := e0.mod.nolimit.keeps fun b o e => (e0.bs b o e).1
  have kinds : ∀ y ∈ ps.zip us, sc.names.lookup y.1 = some .local ∨ (sc.names.lookup y.1 = some .cell ∧ ((cellsFrom (s.heap.objs.size + 1) sc.names []).lookup y.1).isSome = true) := by
    rintro ⟨nm, v⟩ hy
    rcases S.par nm (List.of_mem_zip hy).1 with z | z
    · exact .inl z
    · exact .inr ⟨z, PySem.W.cellsFrom_some _ _ _ (.inl z)⟩
  refine codeAny_call_function room.toRoom.depth (kIn _ _ lk) rfl S.co S.gen rfl (PySem.W.codeRec_of kIn hcd) (hb _ _ _ _ (wpAny_newFunctionEnv_cells S.kind kinds fun env henv s1 inc => ?_))
  subst henv
  refine ⟨noLim.keeps inc.toInCall.keep, codeAny_func ?_⟩
  obtain ⟨t, ht, hq⟩ := hbody A ot s H vs Q E (room.down _) wish
  have I0 : Inv (cxOf (L2.CX P w) P w K mg base N qual sc f cdv A ot s H E) [] (start N vs) H s1 := inv_start S room.hd e0 hlen rel inc
  refine wpAny_mono (ht.run [] s1 (start N vs) H _ I0 hq) (fun fl s' hs => ?_) fun _ _ hs => hs
  cases fl with
  | next => obtain ⟨σ', H', J, q⟩ := hs; exact ⟨.non, H', J.os, J.bare, J.base, J.hok, rfl, q⟩
  | ret u => obtain ⟨v, σ', H', J, rv, q⟩ := hs; exact ⟨v, H', J.os, J.bare, J.base, J.hok, rv, q⟩
  | brk => obtain ⟨_, _, _, q⟩ := hs; exact q.elim
  | cont => obtain ⟨_, _, _, q⟩ := hs; exact q.elim
theorem startA_ok {H : Hp} {A : AHp} {N : List Str} {as : List AV} {vs : List V} (rs : RepVs K H A as vs) : RepE K H A (startA N as) (start N vs) := by
  unfold startA L2.start
  rw [rs.length]
  exact RepE.start _ rs
theorem fun_ok {x qual : Str} {st : Stmt} {f : Addr} {fd : FuncData} {N ps : List Str} {k : Nat} {sp : Spa} (F : Fun K x qual st f fd) (S : FnScope N ps (defScope st)) (len : ∀ as A Q, sp as A Q → as.length = ps.length)
    (hbody : ∀ (cdv : Value) (A : Around) (outer : List Env) (s : Shared) (H : Hp) (E : XK), RoomG k (A.deeper (PyProof.Rows.envOfC qual (defScope st) s.heap.objs.size f cdv)) →
      ∃ t : TSa, DSs (cxOf (L2.CX P w) P w K mg base N qual (defScope st) f cdv A outer s H E).nox (defBody st) t ∧ ∀ as AH Q, sp as AH Q → t { nx := fun _ A' => Cv Q .non A', rt := Cv Q } (startA N as) AH) : FnG P w K mg base (k + 1) f fd ps (lfSp K sp) := by
  obtain ⟨oc, od, kV, doc, pm, an, cdv, ct, osl, rfl, lk, hcd⟩ := F.ex
  refine fnG_of lk hcd S (fun vs H Q E ⟨as, A, Q', rs, g, h, _⟩ => by rw [← rs.length]; exact len _ _ _ h) fun A outer s H vs Q E hr ⟨as, AH, Q', rs, g, h, Ps⟩ => ?_
  obtain ⟨t, ht, hq⟩ := hbody cdv A outer s H E hr
  refine ⟨_, PSs.nox ht, startA N as, AH, _, startA_ok rs, g, hq as AH Q' h, ⟨fun e A2 σ H2 re g2 s2 q2 => ?_, fun a A2 v H2 r g2 s2 q2 => ?_, fun _ _ _ _ _ _ _ q2 => q2.elim, fun _ _ _ _ _ _ _ q2 => q2.elim, fun _ _ _ _ _ _ _ _ _ _ _ q2 => q2.elim⟩⟩
  · exact Cv.post Ps _ _ _ _ .non g2 s2 q2
  · exact Cv.post Ps _ _ _ _ r g2 s2 q2
/-- .. of a def that may raise -/
theorem fun_okX {x qual : Str} {st : Stmt} {f : Addr} {fd : FuncData} {N ps : List Str} {k : Nat} {sp : Spx} (F : Fun K x qual st f fd) (S : FnScope N ps (defScope st)) (len : ∀ as A Q E, sp as A Q E → as.length = ps.length)
    (hbody : ∀ (cdv : Value) (A : Around) (outer : List Env) (s : Shared) (H : Hp) (E : XK), RoomG k (A.deeper (PyProof.Rows.envOfC qual (defScope st) s.heap.objs.size f cdv)) →
      ∃ t : TSa, DSs (cxOf (L2.CX P w) P w K mg base N qual (defScope st) f cdv A outer s H E) (defBody st) t ∧ ∀ as AH Q E', sp as AH Q E' → t { nx := fun _ A' => Cv Q .non A', rt := Cv Q, ex := fun x _ A' => E' x A' } (startA N as) AH) :
    FnG P w K mg base (k + 1) f fd ps (lfSpX K mg sp) := by
  obtain ⟨oc, od, kV, doc, pm, an, cdv, ct, osl, rfl, lk, hcd⟩ := F.ex
  refine fnG_of lk hcd S (fun vs H Q E ⟨as, A, Q', E', rs, g, h, _⟩ => by rw [← rs.length]; exact len _ _ _ _ h) fun A outer s H vs Q E hr ⟨as, AH, Q', E', rs, g, h, Ps, Px⟩ => ?_
  obtain ⟨t, ht, hq⟩ := hbody cdv A outer s H E hr
  refine ⟨_, ht, startA N as, AH, _, startA_ok rs, g, hq as AH Q' E' h, ⟨fun e A2 σ H2 re g2 s2 q2 => ?_, fun a A2 v H2 r g2 s2 q2 => ?_, fun _ _ _ _ _ _ _ q2 => q2.elim, fun _ _ _ _ _ _ _ q2 => q2.elim, fun y cls d e2 A2 σ2 H2 rx re g2 s2 q2 => ?_⟩⟩
  · exact Cv.post Ps _ _ _ _ .non g2 s2 q2
  · exact Cv.post Ps _ _ _ _ r g2 s2 q2
  · exact WOf.of (takes_of (E := E) rfl rfl rfl rfl) (W := fun cls d _ H => E cls d H) (Px y cls d A2 H2 rx g2 s2 q2)
theorem fun_dat {x qual : Str} {st : Stmt} {f : Addr} {fd : FuncData} (F : Fun K x qual st f fd) : (K.lookup f).map Obj.data = some (.func fd) := by
  obtain ⟨oc, od, kV, doc, pm, an, cdv, ct, osl, e, lk, hcd⟩ := F.ex
  rw [lk]; rfl
/-- a def of the text that keeps its promise, under its name -/
structure HasS (P : Program) (w : World) (K : PySem.W.Frag) (mg : Str → Option Value) (base : Heap) (k : Nat) (x : Str) (ps : List Str) (sp : Sp) : Prop where
  ex : ∃ f fd, mg x = some (.ref f) ∧ PySem.W.keepIn K (.ref f) = true ∧ Binds K fd ps [] ∧ FnG P w K mg base k f fd ps sp ∧ (K.lookup f).map Obj.data = some (.func fd)
theorem HasS.mono {k j : Nat} {x : Str} {ps : List Str} {sp : Sp} (h : HasS P w K mg base k x ps sp) (hj : k ≤ j) : HasS P w K mg base j x ps sp := by
  obtain ⟨f, fd, a, b, c, d, e⟩ := h.ex
  exact ⟨f, fd, a, b, c, d.less hj, e⟩
abbrev Has (P : Program) (w : World) (K : PySem.W.Frag) (mg : Str → Option Value) (base : Heap) (k : Nat) (x : Str) (ps : List Str) (sp : Spa) : Prop := HasS P w K mg base k x ps (lfSp K sp)
abbrev HasX (P : Program) (w : World) (K : PySem.W.Frag) (mg : Str → Option Value) (base : Heap) (k : Nat) (x : Str) (ps : List Str) (sp : Spx) : Prop := HasS P w K mg base k x ps (lfSpX K mg sp)
/-- a promise where nothing is raised, and one where something is, are one -/
theorem HasS.orX {k : Nat} {x : Str} {ps : List Str} {sp : Spa} {spb : Spx} (h : Has P w K mg base k x ps sp) (hb : HasX P w K mg base k x ps spb) : HasX P w K mg base k x ps (fun as A Q E => sp as A Q ∨ spb as A Q E) := by
  obtain ⟨f, fd, a, b, c, d, e⟩ := h.ex
  obtain ⟨f2, fd2, a2, b2, c2, d2, e2⟩ := hb.ex
  rw [a] at a2
  cases a2
  rw [e] at e2
  cases e2
  refine ⟨f, fd, a, b, c, ⟨fun vs H Q E ⟨as, A, Q', E', rs, g, q, Ps, Px⟩ => ?_, fun A ot s H ar us vs Q E hr he hbi hv ⟨as, A', Q', E', rs, g, q, Ps, Px⟩ => ?_⟩, e⟩
  · rcases q with q | q
    · exact d.ln vs H Q E ⟨as, A, Q', rs, g, q, Ps⟩
    · exact d2.ln vs H Q E ⟨as, A, Q', E', rs, g, q, Ps, Px⟩
  · rcases q with q | q
    · exact d.rn A ot s H ar us vs Q E hr he hbi hv ⟨as, A', Q', rs, g, q, Ps⟩
    · exact d2.rn A ot s H ar us vs Q E hr he hbi hv ⟨as, A', Q', E', rs, g, q, Ps, Px⟩
end
theorem de_has {X : Cx} {k j : Nat} {ps : List Str} {sp : Spa} {x : Str} {p pos : Pos} {e : Expr} {es : List Expr} {t : TAa} (F : Has X.prog X.w X.K X.mg X.base k x ps sp) (hr : RoomG j X.A) (hg : Gl X x) (ha : DA X (e :: es) t) (hj : k ≤ j := by decide)
    (hdb : (x == ("__debug__" : Str)) = false := by decide) (he : starEach (e :: es) X.env = (false, eval e X.env) :: starEach es X.env := by rfl) (hpl : (backTo pos (starEach es X.env)).any (·.1) = false := by rfl) :
    DE X (.Call (.Name x p) (e :: es) [] pos) (aCall sp t) := by
  obtain ⟨f, fd, a, b, c, d, _⟩ := F.ex
  exact de_call (d.less hj) hr hg a b c ha hdb he hpl
end D

set_option Elab.async false
set_option linter.all false
set_option maxRecDepth 100000
namespace D
open PySem PySem.Spec L2
section
variable {X : Cx} {x : Str} {pos : Pos}
theorem de_globI {i : Int} {t : Tok} (hg : Gl X x) (hm : X.mg x = some (.int i t)) (hd : (x == ("__debug__" : Str)) = false := by decide) : DE X (.Name x pos) (aC (.int i)) := de_c (pe_glob (v := .int i) hg hm ⟨t, rfl⟩ hd) fun _ _ => .int i
theorem de_globS {z : Str} {t : Tok} (hg : Gl X x) (hm : X.mg x = some (.str z t)) (hd : (x == ("__debug__" : Str)) = false := by decide) : DE X (.Name x pos) (aC (.str z)) := de_c (pe_glob (v := .str z) hg hm ⟨t, rfl⟩ hd) fun _ _ => .str z
theorem de_globEI {i : Int} (hg : Gl X x) (hm : ∃ t, X.mg x = some (.int i t)) (hd : (x == ("__debug__" : Str)) = false := by decide) : DE X (.Name x pos) (aC (.int i)) := let ⟨_, h⟩ := hm; de_globI hg h hd
theorem de_globES {z : Str} (hg : Gl X x) (hm : ∃ t, X.mg x = some (.str z t)) (hd : (x == ("__debug__" : Str)) = false := by decide) : DE X (.Name x pos) (aC (.str z)) := let ⟨_, h⟩ := hm; de_globS hg h hd
theorem de_ty {T : String} (hg : Gl X x) (hm : X.mg x = none) (hv : bootBuiltins x = some (.type T)) (hn : x ≠ "__name__" := by decide) (hd : (x == ("__debug__" : Str)) = false := by decide) : DE X (.Name x pos) (aC (.ty T)) := de_c (pe_bltn (v := .ty T) hg hm hv rfl hn hd) fun _ _ => .ty T

/-! ### {k: v for ..} -/
def runDc (keep : AHp → Prop) (g : TGa) (tt : TTa) (tk tv : TEa) (env : AEnv) (D : Addr) (Q : List (Key × AV) → AHp → Prop) : List AV → List (Key × AV) → AHp → Prop
  | [], acc, A => A D = some (.dct acc) ∧ Q acc A
  | x :: xs, acc, A => g x env A fun e2 A2 => tt e2 A2 fun b A3 => if b = true then tk e2 A3 fun y A4 => tv e2 A4 fun z A5 => ∃ k, keyA y = some k ∧ A5 D = some (.dct acc) ∧ acc.length < sizeLine ∧ keep (updA A5 D (.dct (putA acc k z))) ∧ runDc keep g tt tk tv env D Q xs (putA acc k z) (updA A5 D (.dct (putA acc k z)))
      else A3 D = some (.dct acc) ∧ keep A3 ∧ runDc keep g tt tk tv env D Q xs acc A3
def aDc (wi : TIa) (g : TGa) (tt : TTa) (tk tv : TEa) (vs : List Nat) : TEa := fun e A Q => wi e A fun items keep A1 => ∀ D, A1 D = none → keep (updA A1 D (.dct [])) ∧ runDc keep g tt tk tv (wipeA e vs) D (fun acc A2 => Q (.ref D) A2) items [] (updA A1 D (.dct []))
theorem dc_use {K : PySem.W.Frag} {wi : TIa} {g : TG} {t : TGa} {tt : TTa} {tk tv : TEa} {vs : List Nat} {σ : L2.St} {H : Hp} {Q : VK} (gl : GL K g t) (wp : Wip g vs) (mn : Mon g)
    (h : lfE K (aDc wi t tt tk tv vs) σ H Q) : tDc (lfI K wi) g (lfT K tt) (lfE K tk) (lfE K tv) vs σ H Q := by
  obtain ⟨env, A, Q', re, g0, q, P⟩ := h
  refine ⟨env, A, _, re, g0, q, fun items keep A1 J H1 ok k1 g1 s1 q1 D hD => ?_⟩
  obtain ⟨k2, q2⟩ := q1 D (g1.noneA hD)
  have sD : Step A1 H1 (updA A1 D (.dct [])) (upd H1 D (.dK [])) := Step.new hD
  have gD : RH K (updA A1 D (.dct [])) (upd H1 D (.dK [])) := g1.new hD (show RepO K H1 A1 (.dct []) (.dK []) from ⟨[], rfl, .nil⟩)
  refine ⟨fun i m H' => m = items.length - i ∧ i ≤ items.length ∧ ∃ A' acc, RH K A' H' ∧ Step A1 H1 A' H' ∧ keep A' ∧ A' D = some (.dct acc) ∧ runDc keep t tt tk tv (wipeA env vs) D (fun acc A2 => Q' (.ref D) A2) (items.drop i) acc A',
    ⟨items.length, by simp, Nat.zero_le _, _, [], gD, sD, k2, updA_same, by rw [List.drop_zero]; exact q2⟩, ?_⟩
  rintro i m H' ⟨rfl, hi, A', acc, g', s', k', hA, q'⟩
  by_cases hlt : i < items.length
  · have ed : items.drop i = items[i] :: items.drop (i + 1) := List.drop_eq_getElem_cons hlt
    rw [ed] at q'
    refine .inr ⟨ok.go i A' H' s' k' g' hlt, fun H2 => ∃ A2 acc2, RH K A2 H2 ∧ Step A1 H1 A2 H2 ∧ keep A2 ∧ A2 D = some (.dct acc2) ∧ runDc keep t tt tk tv (wipeA env vs) D (fun acc A2 => Q' (.ref D) A2) (items.drop (i + 1)) acc2 A2, fun H2 ⟨A2, acc2, a1, a2, a3, a4, a5⟩ => ⟨items.length - (i + 1), by omega, rfl, hlt, A2, acc2, a1, a2, a3, a4, a5⟩, fun x H2 hy => ?_⟩
    obtain ⟨rx, g2, s2⟩ := ok.yld i A' H' x H2 items[i] s' k' g' (List.getElem?_eq_getElem hlt) hy
    have re2 : RepE K H2 A' (wipeA env vs) (wipe σ vs) := ((re.step s1).step (s'.trans s2)).wipe vs
    refine mn _ _ _ _ _ (wp _ _ _ _ (gl _ _ _ _ ⟨items[i], wipeA env vs, A', _, rx, re2, g2, q', fun e3 A3 σ3 H3 re3 g3 s3 q3 => ?_⟩)) (fun σ3 H3 ⟨e1, q3⟩ => ⟨e1.trans (wipe_wipe vs vs fun _ h => h), q3⟩)
    have sB : Step A1 H1 A3 H3 := s'.trans (s2.trans s3)
    refine ⟨e3, A3, _, re3, g3, q3, fun b A4 b' H4 hb g4 s4 q4 => ?_⟩
    subst hb
    cases b with
    | false =>
      obtain ⟨a1, a2, a3⟩ := q4
      exact ⟨A4, acc, g4, sB.trans s4, a2, a1, a3⟩
    | true =>
      refine ⟨e3, A4, _, re3.step s4, g4, q4, fun y A5 vy H5 ry g5 s5 q5 => ⟨e3, A5, _, (re3.step s4).step s5, g5, q5, fun z A6 vz H6 rz g6 s6 ⟨k, hk, a1, a2, a3, a4⟩ => ?_⟩⟩
      obtain ⟨u, h1, ws, e2, h2⟩ := g6 D _ a1
      subst e2
      have ek := keyA_ok (ry.step s6) hk
      refine ⟨ws, k, ek, h1, by rw [← show acc.length = ws.length from Paired.length h2]; exact a2, updA A6 D (.dct (putA acc k z)), putA acc k z, ?_, ?_, a3, updA_same, a4⟩
      · exact g6.put a1 (show RepO K H6 A6 (.dct (putA acc k z)) (.dK (putK ws k vz)) from ⟨_, rfl, put_reps h2 rz⟩)
      · exact (sB.trans (s4.trans (s5.trans s6))).trans (Step.put a1)
  · have e : i = items.length := by omega
    subst e
    rw [List.drop_length] at q'
    exact .inl ⟨ok.stop _ A' H' s' k' g' (Nat.le_refl _), P _ _ _ _ (.ref D) g' (s1.trans s') q'.2⟩
theorem de_dc {kx vx tg iter : Expr} {ifs : List Expr} {scope : Scope} {own : List (Str × Nat)} {pos : Pos} {wi : TIa} {g : TG} {t : TGa} {tt : TTa} {tk tv : TEa} (hc : X.calm = true) (hN : X.N.Nodup) (hi : DI X tg iter wi) (ok : BlkOk X.N X.env.scope scope own) (gl : GL X.K g t) (wp : Wip g (own.map (·.2))) (mn : Mon g)
    (hg : ∀ (s : Shared) (H : Hp) (C : Addr) (cl : List (Str × Addr)) (fp : List Addr), PG (X.blk s H scope (compEnvC scope cl C X.env) fp) tg g) (ht : ∀ (s : Shared) (H : Hp) (C : Addr) (cl : List (Str × Addr)) (fp : List Addr), DTs (X.blk s H scope (compEnvC scope cl C X.env) fp) ifs tt)
    (hk : ∀ (s : Shared) (H : Hp) (C : Addr) (cl : List (Str × Addr)) (fp : List Addr), DE (X.blk s H scope (compEnvC scope cl C X.env) fp) kx tk)
    (he : ∀ (s : Shared) (H : Hp) (C : Addr) (cl : List (Str × Addr)) (fp : List Addr), DE (X.blk s H scope (compEnvC scope cl C X.env) fp) vx tv) (hs : ∀ x, foldedSetIterable iter X.env x = pure x := by intro _; rfl) :
    DE X (.DictComp kx vx [⟨tg, iter, ifs, 0⟩] scope pos) (aDc wi t tt tk tv (own.map (·.2))) :=
  pe_weak (pe_dc hc hN hi ok hg ht hk he hs) fun σ H Q h => dc_use gl wp mn h

theorem sw_dict {kx vx : Expr} {gs : List Comprehension} {scope : Scope} {pos py : Pos} {y : Str} {l : Nat} {env : Env} (hk : env.scope.kind = .function) (hy : env.scope.names.lookup y = some .local) (hl : (py.line == pos.line) = true)
    (ha : (scope.names.any fun (n, k) => n == y && (k == .local || k == .cell)) = false) : swapsWith (.DictComp kx vx gs scope pos) (some (.Name y py)) l env = pure true := by
  have h1 : env.kindOf y = some .local := hy
  have h2 : env.blockKind = .function := by unfold Env.blockKind; rw [hk]; rfl
  unfold swapsWith
  simp only [h2, h1, ha, Expr.pos, hl]
  rfl
theorem ps_setDc {i : Nat} {y : Str} {py : Pos} {kx vx tg iter : Expr} {ifs : List Expr} {scope : Scope} {own : List (Str × Nat)} {pos spos : Pos} {wi : TI} {g : TG} {tt : TT} {tk tv : TE} (hc : X.calm = true) (hN : X.N.Nodup) (hy : X.N[i]? = some y) (hyl : X.env.scope.names.lookup y = some .local)
    (hsw : swapsWith (.DictComp kx vx [⟨tg, iter, ifs, 0⟩] scope pos) (some (.Name y py)) spos.line X.env = pure true) (hi : PI X tg iter wi) (ok : BlkOk X.N X.env.scope scope own)
    (hg : ∀ (s : Shared) (H : Hp) (C : Addr) (cl : List (Str × Addr)) (fp : List Addr), PG (X.blk s H scope (compEnvC scope cl C X.env) fp) tg g) (ht : ∀ (s : Shared) (H : Hp) (C : Addr) (cl : List (Str × Addr)) (fp : List Addr), PTs (X.blk s H scope (compEnvC scope cl C X.env) fp) ifs tt)
    (hk : ∀ (s : Shared) (H : Hp) (C : Addr) (cl : List (Str × Addr)) (fp : List Addr), PE (X.blk s H scope (compEnvC scope cl C X.env) fp) kx tk)
    (he : ∀ (s : Shared) (H : Hp) (C : Addr) (cl : List (Str × Addr)) (fp : List Addr), PE (X.blk s H scope (compEnvC scope cl C X.env) fp) vx tv) (hs : ∀ x, foldedSetIterable iter X.env x = pure x := by intro _; rfl) :
    PS X (.Assign [.Name y py] (.DictComp kx vx [⟨tg, iter, ifs, 0⟩] scope pos) spos) (tAsg (tDc wi g tt tk tv (own.map (·.2))) (gName i)) := by
  constructor
  intro pins s σ H D I h
  rw [exec_Assign_Name_used _ _ _ _ hsw]
  refine wpAny_bind (wpAny_standAt (wpAny_bind ?_))
  show wpAny _ X.A (do let _ ← comprehension (.DictComp kx vx [⟨tg, iter, ifs, 0⟩] scope pos) scope X.env (firstIterPos [⟨tg, iter, ifs, 0⟩] pos) newDict false (eval iter X.env) (some (assign (.Name y py) X.env))) _ _ s
  have h0 : tDc wi g tt tk tv (own.map (·.2)) σ H (fun x H1 => gName i x σ H1 D.nx) := h
  have main := dc_core (X := X) (pins := pins) (s := s) (pos := pos) (pos' := firstIterPos [⟨tg, iter, ifs, 0⟩] pos) (use := some (assign (.Name y py) X.env)) (Qf := fun _ s' => SP X pins D .next s') hc hN I hi ok hg ht hk he hs h0 fun L C s' m H' I' q hn f => by
    obtain ⟨f0, f1, f2, f3, f4, f5⟩ := f
    show wpAny _ _ (assign (.Name y py) X.env (.ref L)) _ _ _
    refine wpAny_assign_Name (store_ok2 (v := V.ref L) I' hN hy (.inl hyl) rfl (fun s2 I2 ⟨a, sb, ha⟩ => ?_) (.inr hyl))
    have hne : C ≠ a := by
      rcases ha with z | z
      · subst z; exact f1
      · intro e; exact f4 y a z e.symm
    refine ⟨m, hn.sameBut sb hne, fun h3 sb3 => ⟨_, H', ?_, q⟩⟩
    exact I2.turned (t' := s2.toks) (fun b o hb e => (sb3.2 b hb).trans e) f0 f1 f3 f4 f5
  exact wpAny_bind (thn main fun _ s' hq => wpAny_pure (wpAny_pure hq))
theorem ds_setDc {i : Nat} {y : Str} {py : Pos} {kx vx tg iter : Expr} {ifs : List Expr} {scope : Scope} {own : List (Str × Nat)} {pos spos : Pos} {wi : TIa} {g : TG} {t : TGa} {tt : TTa} {tk tv : TEa} (hc : X.calm = true) (hN : X.N.Nodup) (hy : X.N[i]? = some y) (hyl : X.env.scope.names.lookup y = some .local)
    (hsw : swapsWith (.DictComp kx vx [⟨tg, iter, ifs, 0⟩] scope pos) (some (.Name y py)) spos.line X.env = pure true) (hi : DI X tg iter wi) (ok : BlkOk X.N X.env.scope scope own) (gl : GL X.K g t) (wp : Wip g (own.map (·.2))) (mn : Mon g)
    (hg : ∀ (s : Shared) (H : Hp) (C : Addr) (cl : List (Str × Addr)) (fp : List Addr), PG (X.blk s H scope (compEnvC scope cl C X.env) fp) tg g) (ht : ∀ (s : Shared) (H : Hp) (C : Addr) (cl : List (Str × Addr)) (fp : List Addr), DTs (X.blk s H scope (compEnvC scope cl C X.env) fp) ifs tt)
    (hk : ∀ (s : Shared) (H : Hp) (C : Addr) (cl : List (Str × Addr)) (fp : List Addr), DE (X.blk s H scope (compEnvC scope cl C X.env) fp) kx tk)
    (he : ∀ (s : Shared) (H : Hp) (C : Addr) (cl : List (Str × Addr)) (fp : List Addr), DE (X.blk s H scope (compEnvC scope cl C X.env) fp) vx tv) (hs : ∀ x, foldedSetIterable iter X.env x = pure x := by intro _; rfl) :
    DS X (.Assign [.Name y py] (.DictComp kx vx [⟨tg, iter, ifs, 0⟩] scope pos) spos) (sAsg (aDc wi t tt tk tv (own.map (·.2))) (hName i)) :=
  ps_weak (ps_setDc hc hN hy hyl hsw hi ok hg ht hk he hs) fun D σ H h => by
    obtain ⟨env, A, D', re, g0, q, P⟩ := h
    have h2 : lfE X.K (aDc wi t tt tk tv (own.map (·.2))) σ H (fun x H1 => gName i x σ H1 D.nx) := ⟨env, A, _, re, g0, q, fun x A1 v H1 rx g1 s1 q1 => P.nx _ _ _ _ (RepE.set (x := some x) (y := some v) rx i (re.step s1)) g1 s1 q1⟩
    exact dc_use gl wp mn h2
end
end D

set_option Elab.async false
set_option linter.all false
set_option maxRecDepth 100000
namespace D
open PySem PySem.Spec L2
/-! ### set(xs) of keys, for its length -/
instance keyMem (k : Key) : (S : List Key) → Decidable (k ∈ S)
  | [] => Decidable.isFalse (by simp)
  | x :: r => if h : k = x then Decidable.isTrue (by simp [h]) else match keyMem k r with
    | Decidable.isTrue q => Decidable.isTrue (by simp [q])
    | Decidable.isFalse q => Decidable.isFalse (by simp [h, q])
/-- the keys met, each once -/
def metK (S : List Key) (k : Key) : List Key := if k ∈ S then S else S ++ [k]
def metsK (ks : List Key) (i : Nat) : List Key := (ks.take i).foldl metK []
theorem metsK_succ {ks : List Key} {i : Nat} {k : Key} (h : ks[i]? = some k) : metsK ks (i + 1) = metK (metsK ks i) k := by
  unfold metsK
  rw [List.take_add_one, h, List.foldl_append]
  rfl
theorem metK_len (S : List Key) (k : Key) : (metK S k).length = if k ∈ S then S.length else S.length + 1 := by
  unfold metK; split <;> simp
theorem metsK_le (ks : List Key) : ∀ i, (metsK ks i).length ≤ i
  | 0 => by simp [metsK]
  | i + 1 => by
    have ih := metsK_le ks i
    cases h : ks[i]? with
    | none =>
      have e : metsK ks (i + 1) = metsK ks i := by
        unfold metsK
        rw [List.take_add_one, h]
        simp
      rw [e]; omega
    | some k =>
      rw [metsK_succ h, metK_len]
      split <;> omega
theorem metK_mem {S : List Key} {v x : Key} : x ∈ metK S v ↔ x ∈ S ∨ x = v := by
  unfold metK
  split
  · rename_i h
    exact ⟨.inl, fun z => z.elim (fun q => q) fun q => by subst q; exact h⟩
  · simp
theorem metsK_nodup {ks : List Key} (h : ks.Nodup) : metsK ks ks.length = ks := by
  have go : ∀ i, i ≤ ks.length → metsK ks i = ks.take i := by
    intro i
    induction i with
    | zero => intro _; simp [metsK]
    | succ i ih =>
      intro hi
      have hlt : i < ks.length := hi
      rw [metsK_succ (List.getElem?_eq_getElem hlt), ih (by omega), List.take_add_one, List.getElem?_eq_getElem hlt]
      unfold metK
      rw [if_neg]
      · rfl
      · intro hb
        obtain ⟨j, hj⟩ := List.mem_iff_getElem?.mp hb
        rw [List.getElem?_take] at hj
        by_cases hji : j < i
        · rw [if_pos hji] at hj
          obtain ⟨hjl, ej⟩ := List.getElem?_eq_some_iff.mp hj
          exact absurd ej (List.pairwise_iff_getElem.mp h j i hjl hlt hji)
        · rw [if_neg hji] at hj
          cases hj
  rw [go _ (Nat.le_refl _), List.take_length]
/-- fewer than the list has: two are the same -/
theorem metsK_len {ks : List Key} (h : (metsK ks ks.length).length = ks.length) : ks.Nodup := by
  have go : ∀ i, i ≤ ks.length → (metsK ks i).length = i → (ks.take i).Nodup ∧ ∀ x, x ∈ metsK ks i ↔ x ∈ ks.take i := by
    intro i
    induction i with
    | zero => intro _ _; exact ⟨by simp, by simp [metsK]⟩
    | succ i ih =>
      intro hi hl
      have hlt : i < ks.length := hi
      have e1 := List.getElem?_eq_getElem hlt
      rw [metsK_succ e1, metK_len] at hl
      have hle := metsK_le ks i
      by_cases hb : ks[i] ∈ metsK ks i
      · rw [if_pos hb] at hl; omega
      · rw [if_neg hb] at hl
        obtain ⟨h1, h2⟩ := ih (by omega) (by omega)
        have e3 : ks.take (i + 1) = ks.take i ++ [ks[i]] := by rw [List.take_add_one, e1]; rfl
        rw [e3]
        refine ⟨?_, fun x => ?_⟩
        · rw [List.nodup_append]
          refine ⟨h1, List.pairwise_singleton _ _, fun a ha b hb2 e => ?_⟩
          have e2 : b = ks[i] := List.mem_singleton.mp hb2
          subst e2
          subst e
          exact hb ((h2 _).mpr ha)
        · rw [metsK_succ e1, metK_mem, h2, List.mem_append, List.mem_singleton]
  have q := (go ks.length (Nat.le_refl _) h).1
  rwa [List.take_length] at q
section
variable {prog : Program} {w : World} {A : Around} {E : Value → Shared → Prop} {s : Shared}
open PyProof.Rows in
theorem loopK {R : Result → Shared → Prop} {I : Addr} {fp wr : List Addr} {G : Array GenState → Array GenState → Prop} {n : Nat} {P : Nat → Value → Prop} {St : Nat → Shared → Prop} (W : WalksS prog w A.in1 I fp wr G n P St) (S : Addr) (hSf : S ∉ fp)
    (ks : List Key) (hval : ∀ i v, P i v → ∃ k, ks[i]? = some k ∧ RelV (kV k) v) (hb : n + 1 < scanBound) : ∀ (m i : Nat) (s : Shared), n - i = m → i ≤ n → St i s →
      s.heap.SetOf (mixKind prog w) S (fun k => decide (k ∈ metsK ks i)) (metsK ks i).length →
      (∀ s', Moved (S :: wr) G s s' → s'.heap.SetOf (mixKind prog w) S (fun k => decide (k ∈ metsK ks n)) (metsK ks n).length → R (.ok (.ret .none)) s') →
      codeAny (model prog w) A (.builtin "set.update.loop" ⟨[.ref S, .ref I], []⟩) R s := by
  have hne : S ∉ wr := fun h => hSf (W.sub _ h)
  have up : ∀ b ∈ wr, b ∈ S :: wr := fun b hb => List.mem_cons_of_mem _ hb
  have stay : ∀ {i : Nat} {s s' : Shared} {f : Key → Bool} {c : Nat}, Moved wr G s s' → s.heap.SetOf (mixKind prog w) S f c → s'.heap.SetOf (mixKind prog w) S f c := fun {i s s' f c} hm ⟨o, es, ep, t, ho, r⟩ => ⟨o, es, ep, t, hm.heap S _ hne ho, r⟩
  intro m
  induction m with
  | zero =>
    intro i s hk hi hst hS hR
    obtain rfl : i = n := by omega
    refine codeAny_builtin F.entry_set_update_loop ?_
    rw [Around.under_plainId F.plain_set_update_loop _]
    show wpAny _ A.in1 (pyNext (.ref I) >>= _) _ _ s
    exact wpAny_bind (W.done s _ _ hst fun s' hm => wpAny_pure (hR s' (hm.mono up) (stay (i := i) hm hS)))
  | succ m ih =>
    intro i s hk hi hst hS hR
    have hlt : i < n := by omega
    refine codeAny_builtin F.entry_set_update_loop ?_
    rw [Around.under_plainId F.plain_set_update_loop _]
    show wpAny _ A.in1 (pyNext (.ref I) >>= _) _ _ s
    refine wpAny_bind (W.item i s _ _ hlt hst fun v s' hP hst' hm => ?_)
    obtain ⟨k, hk1, rk⟩ := hval i v hP
    have hS2 := stay (i := i) hm hS
    show wpAny _ A.in1 (holding [v] (setAdd S v) >>= _) _ _ s'
    refine wpAny_bind (wpAny_holding ?_)
    unfold setAdd
    refine wpAny_holding (wpAny_bind ((mixKind prog w).pyHash (k := k) (kV_is rk) ?_))
    have room : (metsK ks i).length + 1 < scanBound := by have := metsK_le ks i; omega
    refine wpAny_setAddHashed_of (knd := mixKind prog w) (kV_is rk) (key_scan rk) hS2 room fun h' sb new => ?_
    have new2 : h'.SetOf (mixKind prog w) S (fun k => decide (k ∈ metsK ks (i + 1))) (metsK ks (i + 1)).length :=
by
      have e1 : (fun j => decide (j ∈ metsK ks i) || decide (j = k)) = fun j => decide (j ∈ metsK ks (i + 1)) := by
        funext j
        rw [← Bool.decide_or]
        exact decide_eq_decide.mpr (by rw [metsK_succ hk1, metK_mem])
      have e2 : (if decide (k ∈ metsK ks i) = true then (metsK ks i).length else (metsK ks i).length + 1) = (metsK ks (i + 1)).length := by
        rw [metsK_succ hk1, metK_len]
        simp only [decide_eq_true_eq]
      rw [← e1, ← e2]
      exact new
    refine wpAny_pure ⟨plainId_quiet F.plain_set_update_loop _, ih (i + 1) _ (by omega) hlt (W.frame _ s' _ _ hst' (Nat.le_succ _) fun b hb o e => ?_) new2 fun s2 hm2 hS3 => ?_⟩
    · have hbS : b ≠ S := fun z => hSf (by rw [← z]; exact hb)
      rw [sb.2 b hbS]; exact e
    · refine hR s2 (Moved.trans W.gtrans ((hm.mono up).then_heap (Nat.le_succ _) fun b o hb e => ?_) hm2) hS3
      have hbS : b ≠ S := fun z => hb (by rw [z]; exact List.mem_cons_self)
      rw [sb.2 b hbS]; exact e

open PyProof.Rows in
set_option maxHeartbeats 3200000 in
/-- set(l), l a list of keys -/
theorem set_listK {l : Addr} {its : List Value} {ks : List Key} {Q : Value → Shared → Prop} (hh : A.handled = none) (hl : s.heap.IsList l its.toArray) (hr : Vals (ks.map kV) its) (hb : ks.length + 1 < scanBound)
    (fin : ∀ (h2 : Heap) (tk : Nat), h2.SetOf (mixKind prog w) s.heap.objs.size (fun k => decide (k ∈ metsK ks ks.length)) (metsK ks ks.length).length → (∀ b o, s.heap.get? b = some o → h2.get? b = some o) → Q (.ref s.heap.objs.size) { s with heap := h2, toks := tk }) :
    wpAny (model prog w) A (call (.type "set") [.ref l]) Q E s := by
  have hsz : its.toArray.size = ks.length := by
    have h0 := hr.length
    rw [List.length_map] at h0
    simp [h0]
  let emp (led : Bool) : Obj := { cls := .type "set", dict := none, data := .set #[] 0 (.fresh 0 0 led) }
  obtain ⟨c, tl, hmro⟩ := PySem.F.called_set.mro
  have hmade := PySem.F.called_set.made
  have hsub := PySem.F.called_set.sub
  have hnt := PySem.F.called_set.notType
  have hcc := PySem.F.called_set.canCreate
  have htc := PySem.F.typeCall_set_1 (.ref l)
  refine wpAny_call (codeAny_of_tree ?_)
  show wpAny _ _ (callAny (.type "set") _) _ _ _
  refine wpAny_pure ⟨Code.quiet_builtin _ (by decide +kernel), codeAny_builtin PySem.F.entry_type_call ?_⟩
  rw [Around.under_plain (weight_type_call_type "set" [.ref l] []) rfl]
  repeat (any_goals (first | assumption | wp_step))
  refine codeAny_mono (code_set_new_1 (.ref l) (E := E) (Q₁ := fun ob s1 => ∃ led : Bool, ob = .ref s.heap.objs.size ∧ s1 = { s with heap := s.heap.push (emp led) }) fun led => ⟨led, rfl, rfl⟩) fun r s1 q1 => ?_
  cases r with
  | error e => exact q1
  | ok fl =>
    cases fl with
    | ret ob =>
      obtain ⟨led, rfl, rfl⟩ := q1
      have atS : (s.heap.push (emp led)).get? s.heap.objs.size = some (emp led) := Heap.get?_push_size _ rfl
      have tyS : Shared.TypeIs { s with heap := s.heap.push (emp led) } (.ref s.heap.objs.size) "set" := ⟨_, atS, rfl⟩
      have hli := PySem.F.called_set.init.lookup
      have hbi := PySem.F.called_set.init.bind (.ref s.heap.objs.size)
      repeat (any_goals (first | assumption | wp_step))
      refine codeAny_mono (codeAny_call_builtin (R := wants (fun r s2 => r = .none ∧ ∃ h2 tk, s2 = { s with heap := h2, toks := tk } ∧ h2.SetOf (mixKind prog w) s.heap.objs.size (fun k => decide (k ∈ metsK ks ks.length)) (metsK ks ks.length).length ∧
          (∀ b o, s.heap.get? b = some o → h2.get? b = some o)) E) PySem.F.called_set.init.plain PySem.F.entry_set_init (check_set_init_1 tyS ?_)) fun r2 s2 q2 => ?_
      · obtain ⟨⟨lc, ld, ldat, lsl⟩, hol, hcl, nl, hdl⟩ := hl
        simp only at hcl hdl
        subst hcl hdl
        have hol2 : (s.heap.push (emp led)).get? l = some { cls := .type "list", dict := ld, data := .seq its.toArray nl, slots := lsl } := Heap.get?_push_of_some _ hol
        have n1 := PySem.F.sub_list_set
        have n2 := PySem.F.sub_list_frozenset
        have n3 : (Value.type "list" == Value.type "dict") = false := by decide
        have il : (s.heap.push (emp led)).IsList l its.toArray := ⟨_, hol2, rfl, nl, rfl⟩
        unfold Builtin.«set.__init__» noKeywords Builtin.Frozenset.updateFrom
        generalize hPI : pyIter = PI
        wp_walk
        subst hPI
        refine wpAny_pyIter_list il (wpAny_bind (wpAny_runValue ?_))
        have hlt : l < s.heap.objs.size := Heap.lt_size hol
        have szS : (s.heap.push (emp led)).objs.size = s.heap.objs.size + 1 := Heap.size_push ..
        have hIl : l ≠ (s.heap.push (emp led)).objs.size := by rw [szS]; exact Nat.ne_of_lt (Nat.lt_succ_of_lt hlt)
        have hSf : s.heap.objs.size ∉ [(s.heap.push (emp led)).objs.size, l] := by
          rw [szS]
          simp only [List.mem_cons, List.not_mem_nil, or_false, not_or]
          exact ⟨Nat.ne_of_lt (Nat.lt_succ_self _), Nat.ne_of_gt hlt⟩
        refine loopK ((Walks.list (by simp [hh]) _ l hIl its.toArray).toS) s.heap.objs.size hSf ks (fun i v hv => ?_) (by rw [hsz]; exact hb) (its.toArray.size - 0) 0 _ (by omega) (Nat.zero_le _) ⟨⟨_, Heap.get?_push_size _ rfl, rfl, rfl⟩, (il.push _)⟩ ?_ fun s3 hm h3 => ?_
        · have hv2 : its[i]? = some v := by simpa using hv
          have hi : i < ks.length := by
            have := (List.getElem?_eq_some_iff.mp hv2).1
            have h0 := hr.length
            rw [List.length_map] at h0
            omega
          obtain ⟨u, h1, h2⟩ := hr.get (i := i) (x := kV ks[i]) (by rw [List.getElem?_map, List.getElem?_eq_getElem hi]; rfl)
          rw [hv2] at h1
          cases h1
          exact ⟨ks[i], List.getElem?_eq_getElem hi, h2⟩
        · have get2 : ((s.heap.push (emp led)).push { cls := .type "list_iterator", data := .fields #[.ref l, .int 0 0] }).get? s.heap.objs.size = some (emp led) := Heap.get?_push_of_some _ atS
          have e1 : (fun k => decide (k ∈ metsK ks 0)) = fun _ => false := by funext k; simp [metsK]
          rw [e1]
          exact ⟨_, #[], 0, _, get2, ⟨rfl, rfl, rfl⟩, rfl, (fun e he => by simp at he), (fun k => by simp), (by decide), (by rfl), rfl⟩
        · obtain ⟨h3', g3, d3, t3, o3⟩ := s3
          have eg : g3 = s.gens := hm.gens
          have ed : d3 = s.drawn := hm.drawn
          have eo : o3 = s.os := hm.os
          subst eg ed eo
          rw [hsz] at h3
          show wpAny _ _ _ _ _ _
          refine wpAny_pure ?_
          show wpAny _ _ (ret Value.none) _ _ _
          refine wpAny_pure ⟨rfl, h3', t3, rfl, h3, fun b o e => ?_⟩
          have hbl := Heap.lt_size e
          exact hm.heap b o (by rw [szS]; simp only [List.mem_cons, List.not_mem_nil, or_false, not_or]; exact ⟨Nat.ne_of_lt hbl, Nat.ne_of_lt (Nat.lt_succ_of_lt hbl)⟩) (Heap.get?_push_of_some _ (Heap.get?_push_of_some _ e))
      · cases r2 with
        | error e => exact q2
        | ok f2 =>
          cases f2 with
          | ret r =>
            obtain ⟨rfl, h2, tk, rfl, hS, hk⟩ := q2
            repeat (any_goals (first | assumption | wp_step))
            exact fin _ _ hS hk
          | _ => exact q2.elim
    | _ => exact q1.elim
end
end D

set_option Elab.async false
set_option linter.all false
set_option maxRecDepth 100000
namespace D
open PySem PySem.Spec L2
/-! ### len(set(xs)) -/
def keysL : List AV → Option (List Key)
  | [] => some []
  | x :: xs => (keyA x).bind fun k => (keysL xs).map fun ks => k :: ks
theorem keysL_ok {K : PySem.W.Frag} {H : Hp} {A : AHp} : ∀ {xs : List AV} {vs : List V} {ks : List Key}, RepVs K H A xs vs → keysL xs = some ks → vs = ks.map kV
  | _, _, _, .nil, h => by cases h; rfl
  | _, _, _, .cons r t, h => by
    obtain ⟨k, h1, h2⟩ := Option.bind_eq_some_iff.mp h
    obtain ⟨ks, h3, rfl⟩ := Option.map_eq_some_iff.mp h2
    rw [List.map_cons, keyA_ok r h1, keysL_ok t h3]
theorem keysL_strs (ns : List Str) : keysL (ns.map AV.str) = some (ns.map Sum.inr) := by
  induction ns with
  | nil => rfl
  | cons x r ih => rw [List.map_cons, keysL, ih]; rfl
section
variable {X : Cx} {a : Expr} {ta : TEa} {p p2 q pos : Pos}
def aLenSet (ta : TEa) : TEa := fun e A Q => ta e A fun x A1 => ∃ xs ks, lsOf A1 x = some xs ∧ keysL xs = some ks ∧ ks.length ≤ 4000 ∧ Q (.int ((metsK ks ks.length).length : Nat)) A1
theorem de_lenSet (hg : Gl X "len") (hm : X.mg "len" = none) (hg2 : Gl X "set") (hm2 : X.mg "set" = none) (ha : DE X a ta) (hc : X.calm = true)
    (na : starEach [a] X.env = (false, eval a X.env) :: starEach [] X.env := by rfl) : DE X (.Call (.Name "len" p) [.Call (.Name "set" p2) [a] [] q] [] pos) (aLenSet ta) := by
  constructor
  intro pins s σ H Q I h
  have h2 : lfE X.K ta σ H fun x H1 => ∃ (l : Addr) (ks : List Key), x = .ref l ∧ SqL X.K H1 l (ks.map kV) ∧ ks.length ≤ 4000 ∧ Q (.int ((metsK ks ks.length).length : Nat)) H1 := by
    obtain ⟨env, A, Q', re, g, q, P⟩ := h
    refine ⟨env, A, _, re, g, q, fun x A1 v H1 rx g1 s1 ⟨xs, ks, h1, h2, h3, q1⟩ => ?_⟩
    obtain ⟨l, vs, rfl, hs, rs⟩ := lsOf_ok rx g1 h1
    have e := keysL_ok rs h2
    subst e
    exact ⟨l, ks, rfl, hs, h3, P _ _ _ _ (.int _) g1 s1 q1⟩
  refine PyProof.Rows.Call_ (ld_blt I hg hm boot_len ?_)
  refine PyProof.Rows.callWith_builtin1 (PyProof.Rows.args_cons ?_ rfl) rfl rfl
  refine PyProof.Rows.Call_ (ld_blt I hg2 hm2 (u := .type "set") (by decide +kernel) ?_)
  refine PyProof.Rows.callWith_type1 (PyProof.Rows.args_cons (thn (ha.run pins s σ H _ I h2) fun v s1 ⟨x, H1, I1, r1, q1⟩ => PyProof.Rows.args_nil ?_) na) na rfl
  obtain ⟨l, ks, rfl, hq, hl, q1⟩ := q1
  cases r1
  obtain ⟨its, r, pl, hz⟩ := I1.list hq
  refine set_listK (I1.ok.hd hc) pl.isList r (by unfold scanBound; omega) fun h' tk hS hk => PyProof.Rows.args_nil ?_
  obtain ⟨o, es, ep, t, ho, hex, hd, _, _, _, hf, hn⟩ := hS
  have I2 : Inv X pins σ H1 { s1 with heap := h', toks := tk } := I1.kept hk
  have hle := metsK_le ks ks.length
  exact call_len_set ho hex hd hf (by rw [hn]; omega) ⟨.int ((metsK ks ks.length).length : Nat), H1, I2.tok _, ⟨_, by rw [hn]⟩, q1⟩
end
end D

set_option Elab.async false
set_option linter.all false
set_option maxRecDepth 100000
namespace D
open PySem PySem.Spec L2

/-! ### enumerate(tuple) -/
def IteT (K : PySem.W.Frag) (a : Addr) (n : Nat) : It where
  go := fun i H => ∃ (xs : List V) (x : V), SqT K H a xs ∧ xs.length = n ∧ xs[i]? = some x
  yld := fun i H v H' => ∃ T x, v = .ref T ∧ H T = none ∧ H' = upd H T (.tup [.int (i : Nat), x]) ∧ ∀ xs, SqT K H a xs → xs[i]? = some x
  stop := fun i H => ∃ xs : List V, SqT K H a xs ∧ xs.length = n ∧ n ≤ i
theorem two_mem {b e it : Addr} (h : b ∈ [e, it]) : b = e ∨ b = it := by simpa using h
theorem tupIter_ne {h : Heap} {t it : Addr} {items : Array Value} {i : Nat} (a : h.IsTuple t items) (b : h.IsTupleIter it t i) : t ≠ it := by
  rintro rfl
  obtain ⟨o, h1, h2, _⟩ := a
  obtain ⟨u, h3, h4, _⟩ := b
  rw [h1] at h3
  cases h3
  rw [h2] at h4
  injection h4 with h5
  exact absurd h5 (by decide)
theorem turn_enumT {P : Program} {w : World} {K : PySem.W.Frag} {elts : List Expr} {kk : Nat} {tpos : Pos} (a e it : Addr) (n : Nat) :
    Turn P w K (.Tuple elts kk tpos) (IteT K a n) [e, it] e (fun i h => (∃ old, IsEnum h e it ((i : Nat) : Int) old) ∧ h.IsTupleIter it a i ∧ e ≠ it ∧ i ≤ n) where
  mem := List.mem_cons_self
  obj := fun i h ⟨⟨old, he⟩, ⟨o, ho, _, hd⟩, _⟩ b hb => by
    rcases two_mem hb with rfl | rfl
    · exact ⟨_, he, fun v q => nomatch q⟩
    · exact ⟨o, ho, fun v q => by rw [hd] at q; cases q⟩
  keep := fun i h h' ⟨⟨old, he⟩, ⟨o, ho, h1, h2⟩, hne⟩ k => ⟨⟨old, k e List.mem_cons_self _ he⟩, ⟨o, k it (by simp) _ ho, h1, h2⟩, hne⟩
  item := by
    intro X hP hw hK hc i pins s σ H E I hf st hg
    subst hP hw hK
    obtain ⟨⟨old, he⟩, hit, hne, hin⟩ := st
    obtain ⟨xs, x, hq, hn, hx⟩ := hg
    obtain ⟨its, rv, p, hz⟩ := I.tuple hq
    have p2 : s.heap.IsTuple a its.toArray := p
    have hai := tupIter_ne p2 hit
    have hae : a ≠ e := by
      rintro rfl
      obtain ⟨o, h1, h2, _⟩ := p2
      have he2 : s.heap.get? a = _ := he
      rw [h1] at he2
      cases he2
      injection h2 with h5
      exact absurd h5 (by decide)
    obtain ⟨u, hu, ru⟩ := rv.get hx
    have hlt : i < its.toArray.size := by simpa using (List.getElem?_eq_some_iff.mp hu).1
    have hel : e < s.heap.objs.size := Heap.lt_size he
    have hil : it < s.heap.objs.size := by obtain ⟨_, q, _⟩ := hit; exact Heap.lt_size q
    refine wpAny_pyNext_enum_itemD (Draws.tuple (A := X.A.in1) (I.ok.hd hc) it a hai its.toArray) he ⟨hit, p2⟩ hlt hne (by simp [hne, Ne.symm hae]) fun y h1 tk hy ho hst hT hsz hk => ?_
    have ey : y = u := by
      have h3 : its.toArray[i]? = some u := by simpa using hu
      rw [h3] at hy
      exact (Option.some.inj hy).symm
    subst ey
    refine ⟨_, rfl, wpAny_letOwnedTupleGo_enum (s := { s with heap := h1, toks := tk + 1 }) ho fun h2 he2 sb => ?_⟩
    have hT2 : h2.get? s.heap.objs.size = some { cls := .type "tuple", data := .seq #[.int i tk, y] } := (sb.2 _ (Nat.ne_of_gt hel)).trans hT
    have new : ObjOk X.prog X.w (upd H s.heap.objs.size (.tup [.int (i : Nat), x])) h2 s.heap.objs.size (.tup [.int (i : Nat), x]) :=
      ⟨show 2 ≤ sizeLine by decide, [.int i tk, y], .cons ⟨_, rfl⟩ (.cons ru .nil), ⟨_, hT2, rfl, _, rfl⟩⟩
    have I2 : Inv X pins σ (upd H s.heap.objs.size (.tup [.int (i : Nat), x])) { s with heap := h2, toks := tk + 1 } :=
      I.turnedNew (ch := [e, it]) (fun b ob hb q => (sb.2 b fun z => hb (by simp [z])).trans (hk b ob (fun z => hb (by simp [z])) (fun z => hb (by simp [z])) q)) hf (Nat.le_refl _) new
    refine ⟨.ref s.heap.objs.size, _, I2, rfl, ⟨_, x, rfl, I.hok.fresh (Nat.le_refl _), rfl, fun ys hy2 => by rw [I.tuple_inj hy2 hq]; exact hx⟩, ⟨⟨y, ?_⟩, ?_, hne, ?_⟩, fun b hb => ?_⟩
    · rw [show ((i + 1 : Nat) : Int) = (i : Int) + 1 by omega]
      exact he2
    · obtain ⟨o, h3, h4, h5⟩ := hst.1
      exact ⟨o, (sb.2 it (Ne.symm hne)).trans h3, h4, h5⟩
    · have := rv.length
      simp at hlt
      omega
    · have hlt2 : b < s.heap.objs.size := by
        rcases two_mem hb with rfl | rfl
        · exact hel
        · exact hil
      rw [upd_ne (Nat.ne_of_lt hlt2)]
      exact (hf b hb).1
  done := by
    intro X hP hw hK hc i pins s σ H E I hf st hg
    subst hP hw hK
    obtain ⟨⟨old, he⟩, hit, hne, hin⟩ := st
    obtain ⟨xs, hq, hn, hx⟩ := hg
    obtain ⟨its, rv, p, hz⟩ := I.tuple hq
    have p2 : s.heap.IsTuple a its.toArray := p
    have hai := tupIter_ne p2 hit
    obtain ⟨f0, f1, f2, f3, f4, f5⟩ := hf it (by simp)
    have hh : X.A.handled = none := I.ok.hd hc
    have hi : i = its.toArray.size := by
      have := rv.length
      simp
      omega
    have st2 : s.heap.IsTupleIter it a its.toArray.size ∧ s.heap.IsTuple a its.toArray := ⟨by rw [← hi]; exact hit, p2⟩
    refine wpAny_pyNext_enum_endD (Draws.tuple (A := X.A.in1) hh it a hai its.toArray) he st2 fun h1 eb => ⟨rfl, I.turned (t' := s.toks) (fun b o hb q => eb b o hb q) f0 f1 f3 f4 f5⟩
  self := fun A i s Q E ⟨⟨_, he⟩, _⟩ h => wpAny_pyIter_enum he h
open AutoSeq1 (wpAny_loadPart') in
theorem enumNewT (l : Addr) (items : Array Value) (n : Nat) (dct : Option Addr) (sl : Array (Option Value)) :
    Meets (Builtin.«enumerate.__new__» ⟨[.type "enumerate", .ref l], []⟩) (fun _ R s => s.heap.get? l = some { cls := .type "tuple", dict := dct, data := .seq items n, slots := sl } ∧
      R (.ok (.ret (.ref (s.heap.push { cls := .type "tuple_iterator", data := .fields #[.ref l, .int 0 0] }).objs.size)))
        { s with heap := (s.heap.push { cls := .type "tuple_iterator", data := .fields #[.ref l, .int 0 0] }).push { cls := .type "enumerate", data := .fields #[.none, .bool false, .ref s.heap.objs.size, rawInt 0, .none, .none] } }) := by
  refine .of_wp fun prog w A R s h => ?_
  obtain ⟨hp, g, d, tk, os⟩ := s
  obtain ⟨hl, h⟩ := h
  have sub := sub_enumerate
  have ht : Heap.IsTuple (Shared.heap ⟨hp, g, d, tk, os⟩) l items := ⟨_, hl, rfl, n, rfl⟩
  wp_walk using wpAny_loadPart' hl
  refine wpAny_stack_any fun st => wpAny_pure ?_
  split
  · rename_i c _ _ _ _ _
    cases (c == Value.type "enumerate") <;> (wp_walk using wpAny_loadPart' hl, wpAny_pyIter_tuple ht; exact ⟨_, rfl, h⟩)
  · wp_walk using wpAny_loadPart' hl, wpAny_pyIter_tuple ht
    exact ⟨_, rfl, h⟩
theorem call_enumT {prog : Program} {w : World} {A : Around} {E : Value → Shared → Prop} {s : Shared} {l : Addr} {items : Array Value} {Q : Value → Shared → Prop} (hL : s.heap.IsTuple l items)
    (h : ∀ h', IsEnum h' (s.heap.objs.size + 1) s.heap.objs.size 0 .none → h'.IsTupleIter s.heap.objs.size l 0 → (∀ b o, s.heap.get? b = some o → h'.get? b = some o) → Q (.ref (s.heap.objs.size + 1)) { s with heap := h' }) :
    wpAny (model prog w) A (call (.type "enumerate") [.ref l]) Q E s := by
  obtain ⟨⟨c, dct, dt, sl⟩, hl, hc, n, hd⟩ := hL
  simp only at hc hd
  subst hc hd
  have sz : (s.heap.push { cls := .type "tuple_iterator", data := .fields #[.ref l, .int 0 0] }).objs.size = s.heap.objs.size + 1 := Heap.size_push ..
  refine callType_new F.called_enumerate (by decide) (F.typeCall_enumerate_1 _) (F.newCall_enumerate_1 _) (fun obj => F.args_object_init_2 obj _) F.entry_enumerate_new (enumNewT l items n dct sl) ⟨hl, ?_⟩
  show _ ∧ _
  rw [sz]
  have he : IsEnum ((s.heap.push { cls := .type "tuple_iterator", data := .fields #[.ref l, .int 0 0] }).push { cls := .type "enumerate", data := .fields #[.none, .bool false, .ref s.heap.objs.size, rawInt 0, .none, .none] }) (s.heap.objs.size + 1) s.heap.objs.size 0 .none := by
    have q := Heap.get?_push_size (s.heap.push { cls := .type "tuple_iterator", data := .fields #[.ref l, .int 0 0] }) (o := { cls := .type "enumerate", data := .fields #[.none, .bool false, .ref s.heap.objs.size, rawInt 0, .none, .none] }) rfl
    rw [sz] at q
    exact q
  exact ⟨⟨_, he, rfl⟩, h _ he ⟨_, Heap.get?_push_of_some _ (Heap.get?_push_size _ rfl), rfl, rfl⟩ fun b o x => Heap.get?_push_of_some _ (Heap.get?_push_of_some _ x)⟩
section
variable {X : Cx} {p pos tpos : Pos} {elts : List Expr} {kk : Nat} {e : Expr}
theorem pi_enumT {ta : TA} (hg : Gl X "enumerate") (hm : X.mg "enumerate" = none) (ha : PA X [e] ta) (hs : starEach [e] X.env = [(false, eval e X.env)] := by rfl) :
    PI X (.Tuple elts kk tpos) (.Call (.Name "enumerate" p) [e] [] pos) (fun σ H R => ta σ H fun vs H1 => ∃ a xs, vs = [.ref a] ∧ ((SqT X.K H1 a xs ∧ R (IteT X.K a xs.length) H1) ∨ (SqL X.K H1 a xs ∧ R (Ite X.K a) H1))) := by
  constructor
  intro pins s σ H R I h
  refine PyProof.Rows.Call_ (ld_blt I hg hm (u := .type "enumerate") (by decide +kernel) (PyProof.Rows.callWith_type1 (thn (ha.run pos pins s σ H _ I h) fun us s1 ⟨vs, H1, I1, r1, q1⟩ => ?_) hs rfl))
  obtain ⟨a, xs, ex, q⟩ := q1
  subst ex
  obtain ⟨u, rfl, ru⟩ := vals1 r1
  cases ru
  have fp2 : ∀ b ∈ [s1.heap.objs.size + 1, s1.heap.objs.size], FpOk X pins H1 b := fun b hb => by
    have hle : s1.heap.objs.size ≤ b := by
      rcases two_mem hb with rfl | rfl
      · exact Nat.le_add_right _ _
      · exact Nat.le_refl _
    exact I1.fpOk hle (I1.hok.fresh hle)
  rcases q with ⟨hq, q⟩ | ⟨hq, q⟩
  · obtain ⟨its, rv, p2, hz⟩ := I1.tuple hq
    refine call_enumT (show s1.heap.IsTuple a its.toArray from p2) fun h' he hit hk => wpAny_pyIter_enum he ?_
    exact ⟨s1.heap.objs.size + 1, [s1.heap.objs.size + 1, s1.heap.objs.size], _, _, H1, rfl, I1.kept (t' := s1.toks) hk, turn_enumT a (s1.heap.objs.size + 1) s1.heap.objs.size xs.length, ⟨⟨.none, he⟩, hit, Nat.succ_ne_self _, Nat.zero_le _⟩, fp2, q⟩
  · obtain ⟨its, rv, p2, hz⟩ := I1.list hq
    refine call_enumerate_list p2.isList fun h' he hit hsz hk => wpAny_pyIter_enum he ?_
    exact ⟨s1.heap.objs.size + 1, [s1.heap.objs.size + 1, s1.heap.objs.size], _, _, H1, rfl, I1.kept (t' := s1.toks) hk, turn_enum a (s1.heap.objs.size + 1) s1.heap.objs.size, ⟨⟨.none, he⟩, hit, Nat.succ_ne_self _⟩, fp2, q⟩
theorem enumT_ok {K : PySem.W.Frag} {a : Addr} {xs : List AV} {vs : List V} {A0 : AHp} {H0 : Hp} (f : FzT K H0 A0 a vs) (r : RepVs K H0 A0 xs vs) : ItOk K (IteT K a vs.length) (enumA xs) free A0 H0 where
  go := fun i A H st k g hi => by
    obtain ⟨x, h3, _⟩ := enum_at (List.getElem?_eq_getElem hi)
    obtain ⟨v, h4, _⟩ := (r.step st).get h3
    exact ⟨vs, v, (f.step st).sq, rfl, h4⟩
  yld := fun i A H x H' b st k g hi hy => by
    obtain ⟨T, v, e1, hT, e2, hv⟩ := hy
    subst e1 e2
    obtain ⟨x, h3, rfl⟩ := enum_at hi
    obtain ⟨v', h4, r4⟩ := (r.step st).get h3
    have e3 : v' = v := Option.some.inj (h4.symm.trans (hv _ (f.step st).sq))
    subst e3
    exact new_pair g hT (.int _) r4
  stop := fun i A H st k g hi => by
    refine ⟨vs, (f.step st).sq, rfl, ?_⟩
    unfold enumA at hi
    rw [List.length_map, List.length_zipIdx] at hi
    rw [← r.length]
    exact hi
/-- enumerate of a tuple or a list -/
def iEnu (t : TAa) : TIa := fun e A R => t e A fun xs A1 => match xs with
  | [.tup a] => R (enumA a) free A1
  | [.fl a] => R (enumA a) free A1
  | [.ref p] => ∃ a, A1 p = some (.lst a) ∧ R (enumA a) (fun B => B p = some (.lst a)) A1
  | _ => False
theorem di_enu {ta : TAa} (hg : Gl X "enumerate") (hm : X.mg "enumerate" = none) (ha : DA X [e] ta) (hs : starEach [e] X.env = [(false, eval e X.env)] := by rfl) :
    DI X (.Tuple elts kk tpos) (.Call (.Name "enumerate" p) [e] [] pos) (iEnu ta) :=
  pi_weak (pi_enumT hg hm ha hs) fun σ H R ⟨env, A, R', re, g, q, P⟩ => ⟨env, A, _, re, g, q, fun xs A1 vs H1 rs g1 s1 q1 => by
    split at q1
    · obtain ⟨v, rfl, r⟩ := reps1 rs
      cases r with | tup f r2 =>
      exact ⟨_, _, rfl, .inl ⟨f.sq, P _ _ _ _ _ (enumT_ok f r2) trivial g1 s1 q1⟩⟩
    · obtain ⟨v, rfl, r⟩ := reps1 rs
      cases r with | fl f r2 =>
      exact ⟨_, _, rfl, .inr ⟨.of f.1, P _ _ _ _ _ (enum_ok fun A2 H2 st _ g2 => ⟨_, .of (st _ _ f.1 f.2).1, r2.step st⟩) trivial g1 s1 q1⟩⟩
    · obtain ⟨v, rfl, r⟩ := reps1 rs
      cases r
      obtain ⟨a, e1, q1⟩ := q1
      obtain ⟨u, h1, ws, rfl, h2⟩ := g1 _ _ e1
      exact ⟨_, _, rfl, .inr ⟨.of h1, P _ _ _ _ _ (enum_ok fun A2 H2 st k g2 => by
        obtain ⟨u, h3, ws, e3, h4⟩ := g2 _ _ k
        subst e3
        exact ⟨ws, .of h3, h4⟩) e1 g1 s1 q1⟩⟩
    · exact q1.elim⟩
end
end D

set_option Elab.async false
set_option linter.all false
set_option maxRecDepth 100000
namespace D
open PySem PySem.Spec L2 PyProof.Rows
open AutoSeq1 (wpAny_loadPart')
/-! ### tuple * 1 -/
theorem tuple_mul1 (l : Addr) (items : Array Value) (n : Nat) (dd : Option Addr) (sl : Array (Option Value)) (u : Tok) :
    Meets (Builtin.«tuple.__mul__» ⟨[.ref l, .int 1 u], []⟩) (fun _ R s => s.heap.get? l = some { cls := .type "tuple", dict := dd, data := .seq items n, slots := sl } ∧ R (.ok (.ret (Value.ref l))) s) := by
  refine .of_wp fun prog w A R s h => ?_
  obtain ⟨hp, g, d, tk, os⟩ := s
  obtain ⟨hl, h⟩ := h
  have f1 := AutoSeq1.idx_int
  wp_walk using wpAny_loadPart' hl
  exact ⟨_, rfl, h⟩
section
variable {X : Cx}
theorem op_rep1 : OpR X (binaryOp .Mult) (fun x y H Q => ∃ l xs, x = .ref l ∧ y = .int 1 ∧ SqT X.K H l xs ∧ Q (.ref l) H) := by
  intro pins s σ H x y v u Q I rx ry ⟨l, xs, e1, e2, hT, q⟩
  subst e1 e2
  cases rx
  obtain ⟨t, rfl⟩ := ry
  obtain ⟨its, r, ⟨⟨cls, dd, data, sl⟩, ho, hc, n, hd⟩, _⟩ := I.tuple hT
  simp only at hc hd
  subst hc hd
  exact wpAny_binaryOp_repeat_ref (T := "tuple") (U := "int") (by decide) ⟨_, ho, rfl⟩ (fun s' => typeIs_int s' 1 t) noFill_tuple_mul F.fills_int_mul F.slot_int_rmul repeat_tuple F.slot_int_index.lookup
    (call_meets F.slot_int_rmul (typeIs_int s 1 t) F.entry_int_rmul (F.args_int_rmul_2 _ _) (int_rmul_tuple 1 t l its.toArray n dd sl)
      ⟨ho, rfl, ⟨_, ho, rfl⟩, call_meets F.slot_tuple_mul ⟨_, ho, rfl⟩ F.entry_tuple_mul (F.args_tuple_mul_2 _ _) (tuple_mul1 l its.toArray n dd sl t) ⟨ho, .ref l, H, I, rfl, q⟩⟩)
/-- *, with (x,) * 1 -/
def mulT : RA2 := fun x y A Q => match x, y with
  | .tup xs, .int k => xs ≠ [] ∧ 1 ≤ k ∧ k ≤ 1000 ∧ xs.length ≤ 1000 ∧ Q (.tup (List.replicate k.toNat xs).flatten) A
  | x, y => mulR x y A Q
theorem o_mulT : OpR X (binaryOp .Mult) (lf2 X.K mulT) := by
  refine opR_weak (opR_or (o_mul (X := X)) op_rep1) fun x y H Q ⟨a, b, A, Q', ra, rb, g, r, P⟩ => ?_
  by_cases h : ∃ xs k, a = .tup xs ∧ b = .int k
  · obtain ⟨xs, k, rfl, rfl⟩ := h
    obtain ⟨h0, h1, h2, h3, q⟩ := r
    by_cases hk : k = 1
    · subst hk
      cases ra with | tup f rs =>
      cases rb
      refine .inr ⟨_, _, rfl, rfl, f.sq, P _ _ _ _ (.tup f rs) g .refl ?_⟩
      simpa using q
    · exact .inl ⟨_, _, A, Q', ra, rb, g, ⟨h0, by omega, h2, h3, q⟩, P⟩
  · refine .inl ⟨a, b, A, Q', ra, rb, g, ?_, P⟩
    unfold mulT at r
    split at r
    · exact absurd ⟨_, _, rfl, rfl⟩ h
    · exact r
end
end D

set_option Elab.async false
set_option linter.all false
set_option maxRecDepth 100000
/-! the readings once more, by matches: they reckon themselves -/
namespace D
open PySem PySem.Spec L2
section
variable {X : Cx} {K : PySem.W.Frag}
theorem lf2_mono {r r' : RA2} (h : ∀ x y A Q, r' x y A Q → r x y A Q) {x y : V} {H : Hp} {Q : VK} (q : lf2 K r' x y H Q) : lf2 K r x y H Q := by
  obtain ⟨a, b, A, Q', ra, rb, g, r, P⟩ := q
  exact ⟨a, b, A, Q', ra, rb, g, h _ _ _ _ r, P⟩
theorem lfC_mono {r r' : RCa} (h : ∀ x A Q, r' x A Q → r x A Q) {vs : List V} {H : Hp} {Q : VK} (q : lfC K r' vs H Q) : lfC K r vs H Q := by
  obtain ⟨a, A, Q', ra, g, r, P⟩ := q
  exact ⟨a, A, Q', ra, g, h _ _ _ r, P⟩
theorem lfM_mono {r r' : RMa} (h : ∀ x xs A Q, r' x xs A Q → r x xs A Q) {v : V} {vs : List V} {H : Hp} {Q : VK} (q : lfM K r' v vs H Q) : lfM K r v vs H Q := by
  obtain ⟨a, as, A, Q', ra, rs, g, r, P⟩ := q
  exact ⟨a, as, A, Q', ra, rs, g, h _ _ _ _ r, P⟩
theorem de_mono {e : Expr} {t t' : TEa} (h : DE X e t) (m : ∀ e A Q, t' e A Q → t e A Q) : DE X e t' := pe_weak h fun σ H Q ⟨env, A, Q', re, g, q, P⟩ => ⟨env, A, Q', re, g, m _ _ _ q, P⟩
theorem dt_mono {e : Expr} {t t' : TTa} (h : DT X e t) (m : ∀ e A Q, t' e A Q → t e A Q) : DT X e t' := pt_weak h fun σ H Q ⟨env, A, Q', re, g, q, P⟩ => ⟨env, A, Q', re, g, m _ _ _ q, P⟩
theorem do_mono {e : Option Expr} {t t' : TOa} (h : DO X e t) (m : ∀ e A Q, t' e A Q → t e A Q) : DO X e t' := po_weak h fun σ H Q ⟨env, A, Q', re, g, q, P⟩ => ⟨env, A, Q', re, g, m _ _ _ q, P⟩
theorem ds_mono {e : Stmt} {t t' : TSa} (h : DS X e t) (m : ∀ D e A, t' D e A → t D e A) : DS X e t' := ps_weak h fun D σ H ⟨env, A, D', re, g, q, P⟩ => ⟨env, A, D', re, g, m _ _ _ q, P⟩
theorem di_mono {tg e : Expr} {t t' : TIa} (h : DI X tg e t) (m : ∀ e A R, t' e A R → t e A R) : DI X tg e t' := pi_weak h fun σ H R ⟨env, A, R', re, g, q, P⟩ => ⟨env, A, R', re, g, m _ _ _ q, P⟩

def vVar (i : Nat) : TEa := fun e A Q => match e[i]? with | some (some v) => Q v A | _ => False
theorem vv (i : Nat) {x : Str} {pos : Pos} (hN : X.N[i]? = some x := by rfl) (hv : Vis X.env.scope x := by first | exact Or.inl rfl | exact Or.inr (Or.inl rfl) | exact Or.inr (Or.inr rfl)) (hd : (x == ("__debug__" : Str)) = false := by decide)
    (hcd : (x == ("__classdict__" : Str)) = false := by decide) : DE X (.Name x pos) (vVar i) := de_mono (dv i hN hv hd hcd) fun e A Q q => by
  unfold vVar at q
  split at q
  · exact ⟨_, by assumption, q⟩
  · exact q.elim
def vTest (t : TEa) : TTa := fun e A Q => t e A fun x A1 => match x with | .bl k => Q k A1 | _ => False
def Pm (t : TEa) : Prop := True
variable {a b c e o i : Expr} {ta tb tc te to ti : TEa} {pos tpos apos cpos : Pos}
theorem bl_of {x : AV} {A1 : AHp} {Q : Bool → AHp → Prop} (q : match x with | .bl k => Q k A1 | _ => False) : ∃ k, x = .bl k ∧ Q k A1 := by
  split at q
  · exact ⟨_, rfl, q⟩
  · exact q.elim
/-- the value of an expression is handled as it comes -/
theorem lfE_cons {t : TEa} {σ : L2.St} {H : Hp} {Q : VK} {Q1 : AV → AHp → Prop} {env : AEnv} {A : AHp} (re : RepE K H A env σ) (g : RH K A H) (q : t env A Q1) (P : Post K (RepV K) A H Q1 Q) : lfE K t σ H Q := ⟨env, A, Q1, re, g, q, P⟩
theorem vt_cmp {op : CmpOp} {r : RA2} (ho : OpR X (compareOp op) (lf2 X.K r)) (ha : DE X a ta) (hb : DE X b tb) (hm : behindInMarks op b = false) : DT X (.Compare a [op] [b] pos) (vTest (aOp r ta tb)) :=
  pt_weak (pt_cmpR ho ha hb hm) fun σ H Q ⟨env, A, Q', re, g, q, P⟩ => lf2_use ⟨env, A, _, re, g, q, fun x A1 v H1 rx g1 s1 q1 => by
    obtain ⟨k, e, q1⟩ := bl_of q1
    subst e
    cases rx
    exact ⟨k, rfl, P _ _ _ _ rfl g1 s1 q1⟩⟩
theorem vt_chain {op op' : CmpOp} {r r' : RA2} (ho : OpR X (compareOp op) (lf2 X.K r)) (ho' : OpR X (compareOp op') (lf2 X.K r')) (ha : DE X a ta) (hb : DE X b tb) (hc : DE X c tc)
    (hm : lastMarks [op, op'] [b, c] = false := by with_unfolding_all rfl) : DT X (.Compare a [op, op'] [b, c] pos) (vTest (aChain r r' ta tb tc)) :=
  pt_weak (pt_chain ho ho' ha hb hc hm) fun σ H Q ⟨env, A, Q', re, g, q, P⟩ => chain_use ⟨env, A, _, re, g, q, fun x A1 v H1 rx g1 s1 q1 => by
    obtain ⟨k, e, q1⟩ := bl_of q1
    subst e
    cases rx
    exact ⟨k, rfl, P _ _ _ _ rfl g1 s1 q1⟩⟩
/-- a chain, its first answer by a match -/
def vChain (r r' : RA2) (ta tb tc : TEa) : TEa := aChain r r' ta tb tc
def vTru (t : TEa) : TTa := fun e A Q => t e A fun x A1 => match truA A1 x with | some k => Q k A1 | none => False
theorem tru_of {x : AV} {A1 : AHp} {Q : Bool → AHp → Prop} (q : match truA A1 x with | some k => Q k A1 | none => False) : ∃ k, truA A1 x = some k ∧ Q k A1 := by
  split at q
  · exact ⟨_, by assumption, q⟩
  · exact q.elim
theorem vt_tru (ha : DE X a ta) (he : ∀ whole, isTrue a X.env whole = (do let v ← whole; standAt a.pos; holding [v] (truthy v)) := by intro _; rfl) : DT X a (vTru ta) :=
  pt_weak (pt_truth ha he) fun σ H Q ⟨env, A, Q', re, g, q, P⟩ => ⟨env, A, _, re, g, q, fun x A1 v H1 rx g1 s1 q1 => by
    obtain ⟨k, e, q1⟩ := tru_of q1
    exact ⟨k, truA_ok rx g1 e, P _ _ _ _ rfl g1 s1 q1⟩⟩
def vAnd (ta tb : TEa) : TEa := fun e A Q => ta e A fun x A1 => match x with | .bl c => (if c = true then tb e A1 Q else Q (.bl false) A1) | _ => False
def vOr (ta tb : TEa) : TEa := fun e A Q => ta e A fun x A1 => match x with | .bl c => (if c = true then Q (.bl true) A1 else tb e A1 Q) | _ => False
variable {rest : List Expr}
theorem ve_and (ha : DE X a ta) (hb : DE X (.BoolOp .And (b :: rest) pos) tb) : DE X (.BoolOp .And (a :: b :: rest) pos) (vAnd ta tb) :=
  pe_weak (pe_and ha hb) fun σ H Q ⟨env, A, Q', re, g, q, P⟩ => ⟨env, A, _, re, g, q, fun x A1 v H1 rx g1 s1 q1 => by
    split at q1
    · rename_i c
      cases rx
      refine ⟨c, rfl, ?_⟩
      cases c with
      | true => exact ⟨env, A1, Q', re.step s1, g1, q1, P.trans s1⟩
      | false => exact P _ _ _ _ (.bl _) g1 s1 q1
    · exact q1.elim⟩
theorem ve_or (ha : DE X a ta) (hb : DE X (.BoolOp .Or (b :: rest) pos) tb) : DE X (.BoolOp .Or (a :: b :: rest) pos) (vOr ta tb) :=
  pe_weak (pe_or ha hb) fun σ H Q ⟨env, A, Q', re, g, q, P⟩ => ⟨env, A, _, re, g, q, fun x A1 v H1 rx g1 s1 q1 => by
    split at q1
    · rename_i c
      cases rx
      refine ⟨c, rfl, ?_⟩
      cases c with
      | false => exact ⟨env, A1, Q', re.step s1, g1, q1, P.trans s1⟩
      | true => exact P _ _ _ _ (.bl _) g1 s1 q1
    · exact q1.elim⟩
def vNot (ta : TEa) : TEa := fun e A Q => ta e A fun x A1 => match truA A1 x with | some k => Q (.bl (!k)) A1 | none => False
theorem ve_not (ha : DE X a ta) : DE X (.UnaryOp .Not a pos) (vNot ta) :=
  pe_weak (pe_notT ha) fun σ H Q ⟨env, A, Q', re, g, q, P⟩ => ⟨env, A, _, re, g, q, fun x A1 v H1 rx g1 s1 q1 => by
    split at q1
    · exact ⟨_, truA_ok rx g1 (by assumption), P _ _ _ _ (.bl _) g1 s1 q1⟩
    · exact q1.elim⟩
def vNeg (ta : TEa) : TEa := fun e A Q => ta e A fun x A1 => match x with | .int i => Q (.int (-i)) A1 | _ => False
theorem ve_neg (ha : DE X a ta) : DE X (.UnaryOp .USub a pos) (vNeg ta) :=
  pe_weak (pe_un un_neg ha) fun σ H Q ⟨env, A, Q', re, g, q, P⟩ => ⟨env, A, _, re, g, q, fun x A1 v H1 rx g1 s1 q1 => by
    split at q1
    · cases rx; exact ⟨_, rfl, P _ _ _ _ (.int _) g1 s1 q1⟩
    · exact q1.elim⟩
def vPart (t : TEa) : TOa := fun e A Q => t e A fun x A1 => match x with | .int i => Q (some i) A1 | _ => False
theorem vo_some (ha : DE X e te) : DO X (some e) (vPart te) := po_weak (po_some ha) fun σ H Q ⟨env, A, Q', re, g, q, P⟩ =>
  ⟨env, A, _, re, g, q, fun x A1 v H1 rx g1 s1 q1 => by
    split at q1
    · cases rx; exact ⟨_, rfl, P _ _ _ _ rfl g1 s1 q1⟩
    · exact q1.elim⟩
def ixV : RA2 := fun x y A Q => match gtR0 A x y with | some v => Q v A | none => False
theorem ve_ix (hu : X.A.units + 1 < cLine) (ha : DE X a ta) (hb : DE X b tb) (hs : PlainIx b) : DE X (.Subscript a b pos) (aOp ixV ta tb) :=
  pe_weak (pe_ix (ix_weak (ix_all hu) fun x y H Q h => lf2_mono (r' := ixV) (fun x y A Q q => by
    unfold ixV at q
    split at q
    · exact ⟨_, by assumption, q⟩
    · exact q.elim) h) ha hb hs) fun σ H Q h => lf2_use h
def slV (x : AV) (lo hi : Option Int) (A : AHp) (Q : AV → AHp → Prop) : Prop := match x with
  | .tup xs => Q (.tup (cutA xs lo hi)) A
  | x => match lsOf A x with | some xs => Q (.fl (cutA xs lo hi)) A | none => False
def slVM (x : AV) (lo hi : Option Int) (A : AHp) (Q : AV → AHp → Prop) : Prop := match lsOf A x with | some xs => ∀ p, A p = none → Q (.ref p) (updA A p (.lst (cutA xs lo hi))) | none => False
theorem sv_all : SlR X (lfSl X.K slV) := slR_weak sl_all fun x lo hi H Q ⟨a, A, Q', ra, g, r, P⟩ => ⟨a, A, Q', ra, g, by
  unfold slV at r
  split at r
  · exact r
  · rename_i h
    have h2 : ∃ xs, lsOf A a = some xs ∧ Q' (.fl (cutA xs lo hi)) A := by
      split at r
      · exact ⟨_, by assumption, r⟩
      · exact r.elim
    cases a with
    | tup xs => exact absurd rfl (h xs)
    | _ => exact h2, P⟩
theorem sv_mut : SlR X (lfSl X.K slVM) := slR_weak sl_mut fun x lo hi H Q ⟨a, A, Q', ra, g, r, P⟩ => ⟨a, A, Q', ra, g, by
  unfold slVM at r
  split at r
  · exact ⟨_, by assumption, r⟩
  · exact r.elim, P⟩

/-! built-ins -/
def vLen : RCa := fun as A Q => match as with | [x] => (match lenA A x with | some n => Q (.int (n : Nat)) A | none => False) | _ => False
theorem w_len : CallR X (.builtin "len") (lfC X.K vLen) := callR_weak b_len fun _ _ _ h => lfC_mono (fun as A Q q => by
  unfold vLen at q
  split at q
  · split at q
    · exact ⟨_, _, rfl, by assumption, q⟩
    · exact q.elim
  · exact q.elim) h
def vSum : RCa := fun as A Q => match as with | [x] => (match sqOf A x with | some xs => (match aInts xs with | some ns => Q (.int ns.sum) A | none => False) | none => False) | _ => False
theorem w_sum (hc : X.calm = true) : CallR X (.builtin "sum") (lfC X.K vSum) := callR_weak (b_sum hc) fun _ _ _ h => lfC_mono (fun as A Q q => by
  unfold vSum at q
  split at q
  · split at q
    · split at q
      · exact ⟨_, _, _, rfl, by assumption, by assumption, q⟩
      · exact q.elim
    · exact q.elim
  · exact q.elim) h
@[irreducible] def vAll : RCa := fun as A Q => match as with | [x] => (match lsOf A x with | some xs => (match aBls xs with | some bs => Q (.bl (bs.all fun b => b)) A | none => False) | none => False) | _ => False
@[irreducible] def vAny : RCa := fun as A Q => match as with | [x] => (match lsOf A x with | some xs => (match aBls xs with | some bs => Q (.bl (bs.any fun b => b)) A | none => False) | none => False) | _ => False
theorem w_all (hc : X.calm = true) : CallR X (.builtin "all") (lfC X.K vAll) := callR_weak (b_all hc) fun _ _ _ h => lfC_mono (fun as A Q q => by
  unfold vAll at q
  split at q
  · split at q
    · split at q
      · exact ⟨_, _, _, rfl, by assumption, by assumption, q⟩
      · exact q.elim
    · exact q.elim
  · exact q.elim) h
theorem w_any (hc : X.calm = true) : CallR X (.builtin "any") (lfC X.K vAny) := callR_weak (b_any hc) fun _ _ _ h => lfC_mono (fun as A Q q => by
  unfold vAny at q
  split at q
  · split at q
    · split at q
      · exact ⟨_, _, _, rfl, by assumption, by assumption, q⟩
      · exact q.elim
    · exact q.elim
  · exact q.elim) h
/-- isinstance, by the kinds' names -/
def isK : String → String → Option Bool
  | "int", "int" => some true | "bool", "int" => some true | "str", "int" => some false | "tuple", "int" => some false | "list", "int" => some false | "NoneType", "int" => some false | "dict", "int" => some false
  | "int", "bool" => some false | "bool", "bool" => some true | "str", "bool" => some false | "tuple", "bool" => some false | "list", "bool" => some false | "NoneType", "bool" => some false | "dict", "bool" => some false
  | "int", "str" => some false | "bool", "str" => some false | "str", "str" => some true | "tuple", "str" => some false | "list", "str" => some false | "NoneType", "str" => some false | "dict", "str" => some false
  | "int", "tuple" => some false | "bool", "tuple" => some false | "str", "tuple" => some false | "tuple", "tuple" => some true | "list", "tuple" => some false | "NoneType", "tuple" => some false | "dict", "tuple" => some false
  | _, _ => none
def vIsi : RCa := fun as A Q => match as with | [x, .ty m] => (match tyN A x with | some n => (match isK n m with | some b => Q (.bl b) A | none => False) | none => False) | _ => False
theorem isK_ok {n m : String} {b : Bool} (h : isK n m = some b) : kitB n m = some b := by
  unfold isK at h
  split at h <;> first | (cases h; decide +kernel) | cases h
theorem w_isi : CallR X (.builtin "isinstance") (lfC X.K vIsi) := callR_weak b_isi fun _ _ _ h => lfC_mono (fun as A Q q => by
  unfold vIsi at q
  split at q
  · split at q
    · split at q
      · exact ⟨_, _, _, _, rfl, by assumption, isK_ok (by assumption), q⟩
      · exact q.elim
    · exact q.elim
  · exact q.elim) h
def vTuple : RCa := fun as A Q => match as with | [x] => (match sqOf A x with | some xs => Q (.tup xs) A | none => False) | _ => False
theorem w_tuple : CallR X (.type "tuple") (lfC X.K vTuple) := callR_weak t_tuple fun _ _ _ h => lfC_mono (fun as A Q q => by
  unfold vTuple at q
  split at q
  · split at q
    · exact ⟨_, _, rfl, by assumption, q⟩
    · exact q.elim
  · exact q.elim) h
def vList : RCa := fun as A Q => match as with | [x] => (match sqOf A x with | some xs => Q (.fl xs) A | none => False) | _ => False
theorem w_list : CallR X (.type "list") (lfC X.K vList) := callR_weak t_list fun _ _ _ h => lfC_mono (fun as A Q q => by
  unfold vList at q
  split at q
  · split at q
    · exact ⟨_, _, rfl, by assumption, q⟩
    · exact q.elim
  · exact q.elim) h
def vListM : RCa := fun as A Q => match as with | [x] => (match sqOf A x with | some xs => ∀ p, A p = none → Q (.ref p) (updA A p (.lst xs)) | none => False) | _ => False
theorem w_listM : CallR X (.type "list") (lfC X.K vListM) := callR_weak t_listM fun _ _ _ h => lfC_mono (fun as A Q q => by
  unfold vListM at q
  split at q
  · split at q
    · exact ⟨_, _, rfl, by assumption, q⟩
    · exact q.elim
  · exact q.elim) h
def vLenSet (ta : TEa) : TEa := fun e A Q => ta e A fun x A1 => match lsOf A1 x with | some xs => (match keysL xs with | some ks => ks.length ≤ 4000 ∧ Q (.int ((metsK ks ks.length).length : Nat)) A1 | none => False) | none => False
end

section
variable {X : Cx} {K : PySem.W.Frag} {a b c e o i : Expr} {ta tb tc te to ti : TEa} {pos tpos apos cpos p p2 q : Pos}
theorem pm_of {te te2 : TEa} (h : DE X e te) : DE X e te := h
/-- a reading whose last part is weaker -/
theorem ve_lenSet (hg : Gl X "len") (hm : X.mg "len" = none) (hg2 : Gl X "set") (hm2 : X.mg "set" = none) (ha : DE X a ta) (hc : X.calm = true)
    (mon : ∀ e A Q R, ta e A Q → (∀ v A1, Q v A1 → R v A1) → ta e A R) (na : starEach [a] X.env = (false, eval a X.env) :: starEach [] X.env := by rfl) : DE X (.Call (.Name "len" p) [.Call (.Name "set" p2) [a] [] q] [] pos) (vLenSet ta) :=
  de_mono (de_lenSet hg hm hg2 hm2 ha hc na) fun e A Q h => mon _ _ _ _ h fun x A1 q1 => by
    split at q1
    · split at q1
      · exact ⟨_, _, by assumption, by assumption, q1.1, q1.2⟩
      · exact q1.elim
    · exact q1.elim
end
end D

set_option Elab.async false
set_option linter.all false
set_option maxRecDepth 100000
namespace D
open PySem PySem.Spec L2
section
variable {X : Cx} {K : PySem.W.Frag} {a b c e o i : Expr} {ta tb tc te to ti : TEa} {pos tpos apos cpos p p2 q : Pos}
theorem mon_var {i : Nat} : ∀ e A (Q R : AV → AHp → Prop), vVar i e A Q → (∀ v A1, Q v A1 → R v A1) → vVar i e A R := fun e A Q R h m => by
  unfold vVar at h ⊢
  split
  · rename_i v h1
    rw [h1] at h
    exact m _ _ h
  · rename_i h1
    split at h
    · rename_i h2
      exact absurd h2 (h1 _)
    · exact h

/-! ### targets -/
def kNil : TGas := fun vs e A Q => match vs with | [] => Q e A | _ => False
def kCons (t : TGa) (u : TGas) : TGas := fun vs e A Q => match vs with | v :: r => t v e A fun e2 A2 => u r e2 A2 Q | _ => False
def kTup (n : Nat) (t : TGas) : TGa := fun v e A Q => match v with | .tup xs => (if xs.length = n then t xs e A Q else False) | _ => False
theorem gk_nil : GLs K gNil kNil := fun vs σ H Q ⟨as, env, A, Q', r, re, g, q, P⟩ => by
  unfold kNil at q
  split at q
  · cases r; exact ⟨rfl, P _ _ _ _ re g .refl q⟩
  · exact q.elim
theorem gk_cons {g1 : TG} {t : TGa} {g2 : TGs} {u : TGas} (h1 : GL K g1 t) (h2 : GLs K g2 u) : GLs K (gCons g1 g2) (kCons t u) := fun vs σ H Q ⟨as, env, A, Q', r, re, g, q, P⟩ => by
  unfold kCons at q
  split at q
  · rename_i v rr
    cases r with | cons ra rs =>
    refine ⟨_, _, rfl, h1 _ _ _ _ ⟨v, env, A, _, ra, re, g, q, fun e2 A2 σ2 H2 re2 g2 s2 q2 => ?_⟩⟩
    exact h2 _ _ _ _ ⟨rr, e2, A2, Q', rs.step s2, re2, g2, q2, fun e3 A3 σ3 H3 re3 g3 s3 q3 => P e3 A3 σ3 H3 re3 g3 (s2.trans s3) q3⟩
  · exact q.elim
theorem gk_tup {n : Nat} {g1 : TGs} {t : TGas} (h : GLs K g1 t) : GL K (gTup K n g1) (kTup n t) := fun v σ H Q ⟨a, env, A, Q', r, re, g, q, P⟩ => by
  unfold kTup at q
  split at q
  · rename_i xs
    split at q
    · cases r with | tup f rs =>
      exact ⟨_, _, rfl, f.sq, by rw [← rs.length]; assumption, h _ _ _ _ ⟨xs, env, A, Q', rs, re, g, q, P⟩⟩
    · exact q.elim
  · exact q.elim
def setV : TSeta := fun o i v A Q => match o with
  | .ref p => (match A p with
    | some (.lst xs) => (match i with | .int k => (match ixN xs.length k with | some j => Q (updA A p (.lst (xs.set j v))) | none => False) | _ => False)
    | some (.dct kvs) => (match keyA i with | some k => kvs.length < sizeLine ∧ Q (updA A p (.dct (putA kvs k v))) | none => False)
    | none => False)
  | _ => False
theorem setV_set {o i v : AV} {A : AHp} {Q : AHp → Prop} (h : setV o i v A Q) : setR o i v A Q := by
  unfold setV at h
  split at h
  · split at h
    · split at h
      · split at h
        · exact .inl ⟨_, _, _, _, rfl, rfl, by assumption, by assumption, h⟩
        · exact h.elim
      · exact h.elim
    · split at h
      · exact .inr ⟨_, _, _, rfl, by assumption, by assumption, h.1, h.2⟩
      · exact h.elim
    · exact h.elim
  · exact h.elim
theorem wt_set (hu : X.A.units + 1 < cLine) : PSet X (lfSet X.K setV) := fun pins s σ H o i v ov iv u Q I ro ri rv ⟨ao, ai, av, A, Q', r1, r2, r3, g, q, P⟩ =>
  st_set hu pins s σ H o i v ov iv u Q I ro ri rv ⟨ao, ai, av, A, Q', r1, r2, r3, g, setV_set q, P⟩

/-! ### op= -/
def sAugV (i : Nat) (te : TEa) (r : TIpa) : TSa := fun D e A => match e[i]? with | some (some x) => te e A fun y A1 => r x y A1 fun z A2 => D.nx (e.set i (some z)) A2 | _ => False
theorem wd_aug {i : Nat} {x : Str} {e : Expr} {te : TEa} {op : Operator} {r : TIpa} {pos' : Pos} (hN : X.N.Nodup) (hi : X.N[i]? = some x) (hx : Loc X.env.scope x) (he : DE X e te) (ho : PIp X op (lfIp X.K r)) (hf : X.fn x = true ∨ X.env.scope.names.lookup x = some .local := by first | exact .inl rfl | exact .inr rfl | assumption) :
    DS X (.AugAssign (.Name x pos') op e pos) (sAugV i te r) := ds_mono (ds_aug hN hi hx he ho hf) fun D e A q => by
  unfold sAugV at q
  split at q
  · exact ⟨_, by assumption, q⟩
  · exact q.elim
def getV : TIpa := fun x y A Q => match x with
  | .ref p => (match A p with
    | some (.lst xs) => (match y with | .int k => (if 0 ≤ k then (match xs[k.toNat]? with | some v => Q v A | none => False) else False) | _ => False)
    | some (.dct kvs) => (match keyA y with | some k => (match valA kvs k with | some v => Q v A | none => False) | none => False)
    | none => False)
  | _ => False
theorem getV_get {x y : AV} {A : AHp} {Q : AV → AHp → Prop} (h : getV x y A Q) : getR x y A Q := by
  unfold getV at h
  split at h
  · split at h
    · split at h
      · split at h
        · split at h
          · exact .inl ⟨_, _, _, _, rfl, rfl, by assumption, by assumption, by assumption, h⟩
          · exact h.elim
        · exact h.elim
      · exact h.elim
    · split at h
      · split at h
        · exact .inr ⟨_, _, _, dcOf_ref (by assumption), by assumption, by assumption, h⟩
        · exact h.elim
      · exact h.elim
    · exact h.elim
  · exact h.elim
theorem wt_get (hu : X.A.units + 1 < cLine) : PGet X (lfGet X.K getV) := fun pins s σ H o i ov iv Q I ro ri h => get_all hu pins s σ H o i ov iv Q I ro ri (lf2_mono (fun x y A Q q => getV_get q) h)

/-! ### a, b = x, y -/
def sParV (i j : Nat) (ta : TAa) : TSa := fun D e A => ta e A fun vs A1 => match vs with | [v, w] => D.nx ((e.set i (some v)).set j (some w)) A1 | _ => False
def sPar3V (i j l : Nat) (ta : TAa) : TSa := fun D e A => ta e A fun vs A1 => match vs with | [u, v, w] => D.nx (((e.set i (some u)).set j (some v)).set l (some w)) A1 | _ => False
theorem wd_par {i j : Nat} {x y : Str} {a b : Expr} {ta : TAa} {px py pt : Pos} {kt k2 pt2} (hc : X.calm = true) (hN : X.N.Nodup) (hi : X.N[i]? = some x) (hj : X.N[j]? = some y) (hij : i ≠ j)
    (hx : X.env.scope.names.lookup x = some .local) (hy : X.env.scope.names.lookup y = some .local) (ha : DA X [a, b] ta)
    (hw : swappedStores [.Tuple [.Name x px, .Name y py] kt pt] (.Tuple [a, b] k2 pt2) X.env = pure (some [x, y]))
    (hs : swapsWithSole [.Tuple [.Name x px, .Name y py] kt pt] (.Tuple [a, b] k2 pt2) pos.line X.env = pure false := by rfl) :
    DS X (.Assign [.Tuple [.Name x px, .Name y py] kt pt] (.Tuple [a, b] k2 pt2) pos) (sParV i j ta) := ps_weak (ps_par hc hN hi hj hij hx hy ha hw hs) fun D σ H ⟨env, A, D', re, g, q, P⟩ =>
  ⟨env, A, _, re, g, q, fun vs A1 us H1 rs g1 s1 q1 => by
    split at q1
    · rename_i v w
      obtain ⟨v', w', rfl, r1, r2⟩ := reps2 rs
      exact ⟨v', w', rfl, P.nx _ _ _ _ (RepE.set (x := some w) (y := some w') r2 j (RepE.set (x := some v) (y := some v') r1 i (re.step s1))) g1 s1 q1⟩
    · exact q1.elim⟩
theorem wd_par3 {i j l : Nat} {x y z : Str} {a b c : Expr} {ta : TAa} {px py pz pt : Pos} {kt k2 pt2} (hc : X.calm = true) (hN : X.N.Nodup) (hi : X.N[i]? = some x) (hj : X.N[j]? = some y) (hl : X.N[l]? = some z) (hij : i ≠ j) (hil : i ≠ l) (hjl : j ≠ l)
    (hx : X.env.scope.names.lookup x = some .local) (hy : X.env.scope.names.lookup y = some .local) (hz : X.env.scope.names.lookup z = some .local) (ha : DA X [a, b, c] ta)
    (hw : swappedStores [.Tuple [.Name x px, .Name y py, .Name z pz] kt pt] (.Tuple [a, b, c] k2 pt2) X.env = pure (some [x, y, z]))
    (hs : swapsWithSole [.Tuple [.Name x px, .Name y py, .Name z pz] kt pt] (.Tuple [a, b, c] k2 pt2) pos.line X.env = pure false := by rfl) :
    DS X (.Assign [.Tuple [.Name x px, .Name y py, .Name z pz] kt pt] (.Tuple [a, b, c] k2 pt2) pos) (sPar3V i j l ta) := ps_weak (ps_par3 hc hN hi hj hl hij hil hjl hx hy hz ha hw hs) fun D σ H ⟨env, A, D', re, g, q, P⟩ =>
  ⟨env, A, _, re, g, q, fun vs A1 us H1 rs g1 s1 q1 => by
    split at q1
    · rename_i u v w
      obtain ⟨u', v', w', rfl, r0, r1, r2⟩ := reps3 rs
      exact ⟨u', v', w', rfl, P.nx _ _ _ _ (RepE.set (x := some w) (y := some w') r2 l (RepE.set (x := some v) (y := some v') r1 j (RepE.set (x := some u) (y := some u') r0 i (re.step s1)))) g1 s1 q1⟩
    · exact q1.elim⟩

/-! ### methods -/
variable {es : List Expr} {t : TAa} {name : Str} {id : String} {r : RMa}
def vML (r : RMa) (to : TEa) (t : TAa) : TEa := fun e A Q => to e A fun x A1 => match lsOf A1 x with | some _ => t e A1 fun xs A2 => r x xs A2 Q | none => False
def vML0 (r : RMa) (to : TEa) : TEa := fun e A Q => to e A fun x A1 => match lsOf A1 x with | some _ => r x [] A1 Q | none => False
theorem we_ml (slot : Slot "list" name id) (hty : typeOf (.builtin id) = pure (.type "method_descriptor")) (hm : MtR X id (lfM X.K r)) (ho : DE X o to) (ha : DA X (e :: es) t)
    (hbase : attributeBase o name X.env (eval o X.env) = eval o X.env := by rfl)
    (hfew : ((backTo cpos (starEach (e :: es) X.env)).all (fun x => !x.1) && (backToKw cpos (keywordEach [] X.env)).all (fun x => x.1.isSome)
      && decide ((e :: es).length + ([] : List Keyword).length + (if ([] : List Keyword).isEmpty then 0 else 1) < 30)) = true := by rfl)
    (hline : (apos.endLine == cpos.line) = true := by rfl) (hs : starEach (e :: es) X.env = (false, eval e X.env) :: starEach es X.env := by rfl) (hplain : (backTo cpos (starEach es X.env)).any (·.1) = false := by rfl) :
    DE X (.Call (.Attribute o name apos) (e :: es) [] cpos) (vML r to t) :=
  pe_weak (pe_bm PySem.F.plainAttrs_list slot hty hm ho ha hbase hfew hline hs hplain) fun σ H Q ⟨env, A, Q', re, g, q, P⟩ => ⟨env, A, _, re, g, q, fun x A1 v H1 rx g1 s1 q1 => by
    split at q1
    · exact ⟨isLs_ty rx g1 ⟨_, by assumption⟩, env, A1, _, re.step s1, g1, q1, fun xs A2 vs H2 rs g2 s2 q2 => ⟨x, xs, A2, Q', rx.step s2, rs, g2, q2, P.trans (s1.trans s2)⟩⟩
    · exact q1.elim⟩
theorem we_ml0 (slot : Slot "list" name id) (hty : typeOf (.builtin id) = pure (.type "method_descriptor")) (hm : MtR X id (lfM X.K r)) (ho : DE X o to)
    (hbase : attributeBase o name X.env (eval o X.env) = eval o X.env := by rfl) (hline : (apos.endLine == cpos.line) = true := by rfl) :
    DE X (.Call (.Attribute o name apos) [] [] cpos) (vML0 r to) :=
  pe_weak (pe_bm0 PySem.F.plainAttrs_list slot hty hm ho hbase hline) fun σ H Q ⟨env, A, Q', re, g, q, P⟩ => ⟨env, A, _, re, g, q, fun x A1 v H1 rx g1 s1 q1 => by
    split at q1
    · exact ⟨isLs_ty rx g1 ⟨_, by assumption⟩, x, [], A1, Q', rx, .nil, g1, q1, P.trans s1⟩
    · exact q1.elim⟩
def nAppend : RMa := fun x vs A Q => match x, vs with
  | .ref p, [y] => (match A p with | some (.lst xs) => xs.length < sizeLine ∧ Q .non (updA A p (.lst (xs ++ [y]))) | _ => False)
  | _, _ => False
theorem n_append : MtR X "list.append" (lfM X.K nAppend) := mtR_weak m_append fun _ _ _ _ h => lfM_mono (fun x xs A Q q => by
  unfold nAppend at q
  split at q
  · split at q
    · exact ⟨_, _, _, rfl, rfl, by assumption, q.1, q.2⟩
    · exact q.elim
  · exact q.elim) h
def nPopAt : RMa := fun x vs A Q => match x, vs with
  | .ref p, [.int i] => (match A p with | some (.lst xs) => (match xs[i.toNat]? with | some y => 0 ≤ i ∧ xs.length ≤ 16777216 ∧ Q y (updA A p (.lst (xs.eraseIdx i.toNat))) | none => False) | _ => False)
  | _, _ => False
theorem n_popAt : MtR X "list.pop" (lfM X.K nPopAt) := mtR_weak m_popAt fun _ _ _ _ h => lfM_mono (fun x xs A Q q => by
  unfold nPopAt at q
  split at q
  · split at q
    · split at q
      · rename_i h2
        obtain ⟨h0, h3, q⟩ := q
        have hl := (List.getElem?_eq_some_iff.mp h2).1
        exact ⟨_, _, _, _, _, rfl, rfl, by assumption, by omega, by omega, seqIndex_of h0 (by omega), h2, q⟩
      · exact q.elim
    · exact q.elim
  · exact q.elim) h
def nPop : RMa := fun x vs A Q => match x, vs with
  | .ref p, [] => (match A p with | some (.lst xs) => (match xs[xs.length - 1]? with | some y => Q y (updA A p (.lst xs.dropLast)) | none => False) | _ => False)
  | _, _ => False
theorem n_pop : MtR X "list.pop" (lfM X.K nPop) := mtR_weak m_pop fun _ _ _ _ h => lfM_mono (fun x xs A Q q => by
  unfold nPop at q
  split at q
  · split at q
    · split at q
      · exact ⟨_, _, _, rfl, rfl, by assumption, by assumption, q⟩
      · exact q.elim
    · exact q.elim
  · exact q.elim) h
/-- the place of the first item that is y -/
def atV (xs : List AV) (y : AV) : Option Nat := match flA y, flAs xs with
  | some f, some fs => firstAt fs f
  | _, _ => none
def nIndex : RMa := fun x vs A Q => match vs with
  | [y] => (match lsOf A x with | some xs => (match atV xs y with | some j => Q (.int (j : Nat)) A | none => False) | none => False)
  | _ => False
theorem n_index : MtR X "list.index" (lfM X.K nIndex) := mtR_weak m_index fun _ _ _ _ h => lfM_mono (fun x xs A Q q => by
  unfold nIndex at q
  split at q
  · split at q
    · split at q
      · rename_i j hj
        unfold atV at hj
        split at hj
        · exact ⟨_, _, _, _, _, rfl, by assumption, by assumption, by assumption, hj, q⟩
        · cases hj
      · exact q.elim
    · exact q.elim
  · exact q.elim) h
def vJoin (to te : TEa) : TEa := fun e A Q => to e A fun x A1 => match x with
  | .str a => te e A1 fun y A2 => (match sqOf A2 y with | some ys => (match aStrs ys with | some ss => (ss.map (·.length)).sum + ss.length * a.length ≤ 16777216 ∧ Q (.str (Txt.join a ss)) A2 | none => False) | none => False)
  | _ => False
theorem we_join (ho : DE X o to) (he : DE X e te) (hs : starEach [e] X.env = [(false, eval e X.env)] := by rfl) (hbase : attributeBase o "join" X.env (eval o X.env) = eval o X.env := by rfl) (hline : (apos.endLine == pos.line) = true := by rfl) :
    DE X (.Call (.Attribute o "join" apos) [e] [] pos) (vJoin to te) := pe_weak (pe_join ho he hs hbase hline) fun σ H Q ⟨env, A, Q', re, g, q, P⟩ =>
  ⟨env, A, _, re, g, q, fun x A1 v H1 rx g1 s1 q1 => by
    split at q1
    · rename_i a
      cases rx
      refine ⟨⟨a, rfl⟩, env, A1, _, re.step s1, g1, q1, fun y A2 w H2 ry g2 s2 q2 => ?_⟩
      split at q2
      · rename_i ys h1
        split at q2
        · rename_i ss h2
          obtain ⟨p, ws, rfl, hs, rs⟩ := sqOf_ok ry g2 h1
          have e2 := aStrs_eq h2
          subst e2
          have e3 := repVs_strs rs
          subst e3
          exact ⟨a, p, ss, rfl, rfl, hs, q2.1, P _ _ _ _ (.str _) g2 (s1.trans s2) q2.2⟩
        · exact q2.elim
      · exact q2.elim
    · exact q1.elim⟩

/-! ### what is walked -/
@[irreducible] def rFor (keep : AHp → Prop) (g : TGa) (tb : TSa) (D : EndsA) (xs : List AV) (e : AEnv) (A : AHp) : Prop := runFor keep g tb D xs e A
def sForV (wi : TIa) (g : TGa) (tb : TSa) : TSa := fun D e A => wi e A fun items keep A1 => rFor keep g tb D items e A1
def sqV (x : AV) (A : AHp) (R : List AV → (AHp → Prop) → AHp → Prop) : Prop := match x with
  | .tup xs => R xs free A
  | .fl xs => R xs free A
  | .kl xs => R xs free A
  | .str z => R (signs z) free A
  | .ref p => (match A p with | some (.lst xs) => R xs (fun B => B p = some (.lst xs)) A | _ => False)
  | _ => False
def jSq (te : TEa) : TIa := fun e A R => te e A fun x A1 => sqV x A1 R
theorem sqV_sq {x : AV} {A : AHp} {R : List AV → (AHp → Prop) → AHp → Prop} (h : sqV x A R) : sqR x A R := by
  unfold sqV at h
  unfold sqR
  cases x with
  | ref p =>
    simp only at h ⊢
    split at h
    · exact ⟨_, by assumption, h⟩
    · exact h.elim
  | _ => exact h
variable {tg : Expr}
theorem dj_sq (he : DE X e te) : DI X tg e (jSq te) := pi_weak (pi_sq he) fun σ H R ⟨env, A, R', re, g, q, P⟩ => by
  have h : lfE X.K te σ H fun x H1 => (∃ a xs, x = .ref a ∧ SqL X.K H1 a xs ∧ R (Itl X.K a) H1) ∨ (∃ a xs, x = .ref a ∧ SqT X.K H1 a xs ∧ R (Itt X.K a) H1) ∨ ∃ z, x = .str z ∧ R (Its z) H1 := by
    refine ⟨env, A, _, re, g, q, fun x A1 v H1 rx g1 s1 q1 => ?_⟩
    have q2 := sqV_sq q1
    cases rx with
    | tup f rs => exact .inr (.inl ⟨_, _, rfl, f.sq, P _ _ _ _ _ (sq_tup f rs) trivial g1 s1 q2⟩)
    | fl f rs => exact .inl ⟨_, _, rfl, .of f.1, P _ _ _ _ _ (sq_lst (vs := []) fun A2 H2 st _ g2 => ⟨_, .of (st _ _ f.1 f.2).1, rs.step st⟩) trivial g1 s1 q2⟩
    | kl f rs => exact .inl ⟨_, _, rfl, f.sq, P _ _ _ _ _ (sq_lst (vs := []) fun A2 H2 st _ g2 => ⟨_, (f.step st).sq, rs.step st⟩) trivial g1 s1 q2⟩
    | str z => exact .inr (.inr ⟨z, rfl, P _ _ _ _ _ sq_str trivial g1 s1 q2⟩)
    | ref p =>
      obtain ⟨xs, e1, q2⟩ := q2
      obtain ⟨u, h1, vs, rfl, h2⟩ := g1 p _ e1
      exact .inl ⟨_, _, rfl, .of h1, P _ _ _ _ _ (sq_lst (vs := []) fun A2 H2 st k g2 => by
        obtain ⟨u, h3, ws, e3, h4⟩ := g2 p _ k
        subst e3
        exact ⟨ws, .of h3, h4⟩) e1 g1 s1 q2⟩
    | _ => exact q2.elim
  exact h
def jRg1 (t : TAa) : TIa := fun e A R => t e A fun xs A1 => match xs with | [.int j] => -(2 ^ 62) ≤ j ∧ j < 2 ^ 62 ∧ R (rng 0 j.toNat) free A1 | _ => False
def jRg2 (t : TAa) : TIa := fun e A R => t e A fun xs A1 => match xs with | [.int i, .int j] => (-(2 ^ 62) ≤ i ∧ i < 2 ^ 62 ∧ -(2 ^ 62) ≤ j ∧ j < 2 ^ 62) ∧ R (rng i (j - i).toNat) free A1 | _ => False
theorem dj_rg1 {a : Expr} {ta : TAa} (hg : Gl X "range") (hm : X.mg "range" = none) (ha : DA X [a] ta) (hs : starEach [a] X.env = [(false, eval a X.env)] := by rfl) : DI X tg (.Call (.Name "range" p) [a] [] pos) (jRg1 ta) :=
  pi_weak (pi_range1 hg hm ha hs) fun σ H R ⟨env, A, R', re, g, q, P⟩ => ⟨env, A, _, re, g, q, fun xs A1 vs H1 rs g1 s1 q1 => by
    split at q1
    · obtain ⟨v, rfl, r⟩ := reps1 rs
      cases r
      exact ⟨_, rfl, q1.1, q1.2.1, P _ _ _ _ _ rng_ok trivial g1 s1 q1.2.2⟩
    · exact q1.elim⟩
theorem dj_rg2 {a b : Expr} {ta : TAa} (hg : Gl X "range") (hm : X.mg "range" = none) (ha : DA X [a, b] ta) (hs : starEach [a, b] X.env = [(false, eval a X.env), (false, eval b X.env)] := by rfl) (hs2 : starEach [b] X.env = [(false, eval b X.env)] := by rfl) :
    DI X tg (.Call (.Name "range" p) [a, b] [] pos) (jRg2 ta) :=
  pi_weak (pi_range2 hg hm ha hs hs2) fun σ H R ⟨env, A, R', re, g, q, P⟩ => ⟨env, A, _, re, g, q, fun xs A1 vs H1 rs g1 s1 q1 => by
    split at q1
    · obtain ⟨v, w, rfl, r, r2⟩ := reps2 rs
      cases r; cases r2
      exact ⟨_, _, rfl, q1.1, P _ _ _ _ _ rng_ok trivial g1 s1 q1.2⟩
    · exact q1.elim⟩
def jEnu (t : TAa) : TIa := fun e A R => t e A fun xs A1 => match xs with
  | [.tup a] => R (enumA a) free A1
  | [.fl a] => R (enumA a) free A1
  | [.ref p] => (match A1 p with | some (.lst a) => R (enumA a) (fun B => B p = some (.lst a)) A1 | _ => False)
  | _ => False
theorem dj_enu {e : Expr} {ta : TAa} {elts : List Expr} {kk : Nat} (hg : Gl X "enumerate") (hm : X.mg "enumerate" = none) (ha : DA X [e] ta) (hs : starEach [e] X.env = [(false, eval e X.env)] := by rfl) :
    DI X (.Tuple elts kk tpos) (.Call (.Name "enumerate" p) [e] [] pos) (jEnu ta) :=
  pi_weak (pi_enumT hg hm ha hs) fun σ H R ⟨env, A, R', re, g, q, P⟩ => ⟨env, A, _, re, g, q, fun xs A1 vs H1 rs g1 s1 q1 => by
    split at q1
    · obtain ⟨v, rfl, r⟩ := reps1 rs
      cases r with | tup f r2 =>
      exact ⟨_, _, rfl, .inl ⟨f.sq, P _ _ _ _ _ (enumT_ok f r2) trivial g1 s1 q1⟩⟩
    · obtain ⟨v, rfl, r⟩ := reps1 rs
      cases r with | fl f r2 =>
      exact ⟨_, _, rfl, .inr ⟨.of f.1, P _ _ _ _ _ (enum_ok fun A2 H2 st _ g2 => ⟨_, .of (st _ _ f.1 f.2).1, r2.step st⟩) trivial g1 s1 q1⟩⟩
    · obtain ⟨v, rfl, r⟩ := reps1 rs
      cases r
      split at q1
      · rename_i a e1
        obtain ⟨u, h1, ws, rfl, h2⟩ := g1 _ _ e1
        exact ⟨_, _, rfl, .inr ⟨.of h1, P _ _ _ _ _ (enum_ok fun A2 H2 st k g2 => by
          obtain ⟨u, h3, ws, e3, h4⟩ := g2 _ _ k
          subst e3
          exact ⟨ws, .of h3, h4⟩) e1 g1 s1 q1⟩⟩
      · exact q1.elim
    · exact q1.elim⟩
theorem wd_for {iter : Expr} {body : List Stmt} {wi : TIa} {g : TG} {t : TGa} {tb : TSa} (hp : PassesOwn (model X.prog X.w) X.A X.env X.xe) (hc : X.calm = true) (hi : DI X tg iter wi) (hg : PG X tg g) (gl : GL X.K g t) (hb : DSs X body tb)
    (hs : ∀ x, foldedSetIterable iter X.env x = pure x := by intro _; rfl) : DS X (.For tg iter body [] pos) (sForV wi t tb) := by
  have e : sForV wi t tb = sFor wi t tb := by
    funext D e A
    unfold sForV sFor
    congr
    funext items keep A1
    unfold rFor
    rfl
  rw [e]
  exact ds_for hp hc hi hg gl hb hs
theorem rFor_nil {keep : AHp → Prop} {g : TGa} {tb : TSa} {D : EndsA} {e : AEnv} {A : AHp} (h : D.nx e A) : rFor keep g tb D [] e A := by unfold rFor; exact h
theorem rFor_cons {keep : AHp → Prop} {g : TGa} {tb : TSa} {D : EndsA} {x : AV} {xs : List AV} {e : AEnv} {A : AHp}
    (h : g x e A fun e1 A1 => tb { D with nx := fun e2 A2 => keep A2 ∧ rFor keep g tb D xs e2 A2, ct := fun e2 A2 => keep A2 ∧ rFor keep g tb D xs e2 A2, bk := D.nx } e1 A1) : rFor keep g tb D (x :: xs) e A := by
  unfold rFor at h ⊢
  exact h

/-! ### comprehensions -/
@[irreducible] def rLc (keep : AHp → Prop) (g : TGa) (tt : TTa) (te : TEa) (env : AEnv) (D : Addr) (Q : List AV → AHp → Prop) (xs acc : List AV) (A : AHp) : Prop := runLc keep g tt te env D Q xs acc A
@[irreducible] def lcT (keep : AHp → Prop) (g : TGa) (tt : TTa) (te : TEa) (env : AEnv) (items : List AV) (A1 : AHp) (Q : AV → AHp → Prop) : Prop := ∀ D, A1 D = none → keep (updA A1 D (.lst [])) ∧ rLc keep g tt te env D (fun acc A2 => Q (.fl acc) (delA A2 D)) items [] (updA A1 D (.lst []))
@[irreducible] def lcTM (keep : AHp → Prop) (g : TGa) (tt : TTa) (te : TEa) (env : AEnv) (items : List AV) (A1 : AHp) (Q : AV → AHp → Prop) : Prop := ∀ D, A1 D = none → keep (updA A1 D (.lst [])) ∧ rLc keep g tt te env D (fun acc A2 => Q (.ref D) A2) items [] (updA A1 D (.lst []))
def vLc (wi : TIa) (g : TGa) (tt : TTa) (te : TEa) (vs : List Nat) : TEa := fun e A Q => wi e A fun items keep A1 => lcT keep g tt te (wipeA e vs) items A1 Q
def vLcM (wi : TIa) (g : TGa) (tt : TTa) (te : TEa) (vs : List Nat) : TEa := fun e A Q => wi e A fun items keep A1 => lcTM keep g tt te (wipeA e vs) items A1 Q
theorem vLc_eq : vLc = aLc := by
  funext wi g tt te vs e A Q
  unfold vLc aLc
  congr
  funext items keep A1
  unfold lcT rLc
  rfl
theorem vLcM_eq : vLcM = aLcM := by
  funext wi g tt te vs e A Q
  unfold vLcM aLcM
  congr
  funext items keep A1
  unfold lcTM rLc
  rfl
theorem rLc_nil {keep : AHp → Prop} {g : TGa} {tt : TTa} {te : TEa} {env : AEnv} {D : Addr} {Q : List AV → AHp → Prop} {acc : List AV} {A : AHp} (h : A D = some (.lst acc)) (q : Q acc A) : rLc keep g tt te env D Q [] acc A := by unfold rLc; exact ⟨h, q⟩
theorem rLc_cons {keep : AHp → Prop} {g : TGa} {tt : TTa} {te : TEa} {env : AEnv} {D : Addr} {Q : List AV → AHp → Prop} {x : AV} {xs acc : List AV} {A : AHp}
    (h : g x env A fun e2 A2 => tt e2 A2 fun b A3 => if b = true then te e2 A3 fun y A4 => A4 D = some (.lst acc) ∧ acc.length < sizeLine ∧ keep (updA A4 D (.lst (acc ++ [y]))) ∧ rLc keep g tt te env D Q xs (acc ++ [y]) (updA A4 D (.lst (acc ++ [y])))
      else A3 D = some (.lst acc) ∧ keep A3 ∧ rLc keep g tt te env D Q xs acc A3) : rLc keep g tt te env D Q (x :: xs) acc A := by
  unfold rLc at h ⊢
  exact h
@[irreducible] def rDc (keep : AHp → Prop) (g : TGa) (tt : TTa) (tk tv : TEa) (env : AEnv) (D : Addr) (Q : List (Key × AV) → AHp → Prop) (xs : List AV) (acc : List (Key × AV)) (A : AHp) : Prop := runDc keep g tt tk tv env D Q xs acc A
@[irreducible] def dcT (keep : AHp → Prop) (g : TGa) (tt : TTa) (tk tv : TEa) (env : AEnv) (items : List AV) (A1 : AHp) (Q : AV → AHp → Prop) : Prop := ∀ D, A1 D = none → keep (updA A1 D (.dct [])) ∧ rDc keep g tt tk tv env D (fun acc A2 => Q (.ref D) A2) items [] (updA A1 D (.dct []))
def vDc (wi : TIa) (g : TGa) (tt : TTa) (tk tv : TEa) (vs : List Nat) : TEa := fun e A Q => wi e A fun items keep A1 => dcT keep g tt tk tv (wipeA e vs) items A1 Q
theorem vDc_eq : vDc = aDc := by
  funext wi g tt tk tv vs e A Q
  unfold vDc aDc
  congr
  funext items keep A1
  unfold dcT rDc
  rfl
theorem rDc_nil {keep : AHp → Prop} {g : TGa} {tt : TTa} {tk tv : TEa} {env : AEnv} {D : Addr} {Q : List (Key × AV) → AHp → Prop} {acc : List (Key × AV)} {A : AHp} (h : A D = some (.dct acc)) (q : Q acc A) : rDc keep g tt tk tv env D Q [] acc A := by unfold rDc; exact ⟨h, q⟩
theorem rDc_cons {keep : AHp → Prop} {g : TGa} {tt : TTa} {tk tv : TEa} {env : AEnv} {D : Addr} {Q : List (Key × AV) → AHp → Prop} {x : AV} {xs : List AV} {acc : List (Key × AV)} {A : AHp}
    (h : g x env A fun e2 A2 => tt e2 A2 fun b A3 => if b = true then tk e2 A3 fun y A4 => tv e2 A4 fun z A5 => ∃ k, keyA y = some k ∧ A5 D = some (.dct acc) ∧ acc.length < sizeLine ∧ keep (updA A5 D (.dct (putA acc k z))) ∧ rDc keep g tt tk tv env D Q xs (putA acc k z) (updA A5 D (.dct (putA acc k z)))
      else A3 D = some (.dct acc) ∧ keep A3 ∧ rDc keep g tt tk tv env D Q xs acc A3) : rDc keep g tt tk tv env D Q (x :: xs) acc A := by
  unfold rDc at h ⊢
  exact h

theorem lc_v {e : Expr} {wi : TIa} {g : TGa} {tt : TTa} {te : TEa} {vs : List Nat} (h : DE X e (aLc wi g tt te vs)) : DE X e (vLc wi g tt te vs) := by rw [vLc_eq]; exact h
theorem lcM_v {e : Expr} {wi : TIa} {g : TGa} {tt : TTa} {te : TEa} {vs : List Nat} (h : DE X e (aLcM wi g tt te vs)) : DE X e (vLcM wi g tt te vs) := by rw [vLcM_eq]; exact h
theorem dc_v {e : Expr} {wi : TIa} {g : TGa} {tt : TTa} {tk tv : TEa} {vs : List Nat} (h : DE X e (aDc wi g tt tk tv vs)) : DE X e (vDc wi g tt tk tv vs) := by rw [vDc_eq]; exact h
theorem lcs_v {e : Stmt} {wi : TIa} {g k : TGa} {tt : TTa} {te : TEa} {vs : List Nat} (h : DS X e (sAsg (aLc wi g tt te vs) k)) : DS X e (sAsg (vLc wi g tt te vs) k) := by rw [vLc_eq]; exact h
theorem lcsM_v {e : Stmt} {wi : TIa} {g k : TGa} {tt : TTa} {te : TEa} {vs : List Nat} (h : DS X e (sAsg (aLcM wi g tt te vs) k)) : DS X e (sAsg (vLcM wi g tt te vs) k) := by rw [vLcM_eq]; exact h
theorem dcs_v {e : Stmt} {wi : TIa} {g k : TGa} {tt : TTa} {tk tv : TEa} {vs : List Nat} (h : DS X e (sAsg (aDc wi g tt tk tv vs) k)) : DS X e (sAsg (vDc wi g tt tk tv vs) k) := by rw [vDc_eq]; exact h
end
end D

set_option Elab.async false
set_option linter.all false
set_option maxRecDepth 100000
namespace D
open PySem PySem.Spec L2
section
variable {X : Cx}
/-- [x] * k, the list made may change -/
def mulM : RA2 := fun x y A Q => match x, y with
  | .fl xs, .int k => -(2 ^ 63) ≤ k ∧ k < 2 ^ 63 ∧ xs.length * k.toNat ≤ sizeLine ∧ ∀ p, A p = none → Q (.ref p) (updA A p (.lst (List.replicate k.toNat xs).flatten))
  | _, _ => False
theorem o_mulM : OpR X (binaryOp .Mult) (lf2 X.K mulM) := by
  intro pins s σ H x y v u Q I rx ry ⟨a, b, A, Q', ra, rb, g, r, P⟩
  cases ra <;> cases rb <;> first | exact r.elim | skip
  rename_i a1 vs1 as1 f1 r1 k
  obtain ⟨h1, h2, h3, q⟩ := r
  refine op_rep pins s σ H _ _ v u Q I rx ry ⟨_, _, vs1, rfl, rfl, f1.1, h1, h2, by rw [← r1.length]; exact h3, fun p hp => ?_⟩
  exact new_lst P g hp (r1.flat _) (q p (g.noneA hp))
end

/-! ### values that == tells -/
def OkA (k : Nat) (x : AV) : Prop := ∃ d, dataN x = some d ∧ d.canLay0 = true ∧ d.depth ≤ k
def OkAs (k : Nat) (xs : List AV) : Prop := ∃ ds, dataNs xs = some ds ∧ PyData.canLayAll0 ds = true ∧ PyData.depthAll ds ≤ k
theorem OkA.int {k : Nat} (i : Int) : OkA k (.int i) := ⟨_, rfl, by simp only [PyData.canLay0], by simp only [PyData.depth]; omega⟩
theorem OkA.str {k : Nat} {x : Str} (h : PyData.strOk x = true) : OkA k (.str x) := ⟨_, rfl, by simpa only [PyData.canLay0] using h, by simp only [PyData.depth]; omega⟩
theorem OkAs.nil {k : Nat} : OkAs k [] := ⟨[], rfl, by simp only [PyData.canLayAll0], by simp only [PyData.depthAll]; omega⟩
theorem OkAs.cons {k : Nat} {x : AV} {xs : List AV} (h : OkA k x) (t : OkAs k xs) : OkAs k (x :: xs) := by
  obtain ⟨d, a, b, c⟩ := h
  obtain ⟨ds, a2, b2, c2⟩ := t
  refine ⟨d :: ds, by rw [dataNs, a, a2]; rfl, by simp only [PyData.canLayAll0, b, b2]; rfl, by simp only [PyData.depthAll]; omega⟩
theorem OkAs.all {k : Nat} : ∀ {xs : List AV}, (∀ x ∈ xs, OkA k x) → OkAs k xs
  | [], _ => .nil
  | x :: xs, h => .cons (h x (List.mem_cons_self ..)) (OkAs.all fun y m => h y (List.mem_cons_of_mem _ m))
theorem OkAs.ints {k : Nat} (ns : List Int) : OkAs k (ns.map AV.int) := .all fun x m => by
  obtain ⟨i, _, rfl⟩ := List.mem_map.mp m
  exact .int i
theorem OkA.tup {k : Nat} {xs : List AV} (h : OkAs k xs) : OkA (k + 1) (.tup xs) := by
  obtain ⟨ds, a, b, c⟩ := h
  exact ⟨.tuple ds, by rw [dataN, a]; rfl, by simpa only [PyData.canLay0] using b, by simp only [PyData.depth]; omega⟩
theorem OkA.mono {k j : Nat} {x : AV} (h : OkA k x) (hj : k ≤ j) : OkA j x := by obtain ⟨d, a, b, c⟩ := h; exact ⟨d, a, b, by omega⟩
theorem dataNs_nil {xs : List AV} {ds : List PyData} (h : dataNs xs = some ds) : ds = [] ↔ xs = [] := by
  cases xs with
  | nil => cases h; simp
  | cons x r =>
    obtain ⟨d, h1, h2⟩ := Option.bind_eq_some_iff.mp h
    obtain ⟨e, h3, rfl⟩ := Option.map_eq_some_iff.mp h2
    simp
theorem eqvAll_nil (ds : List PyData) : PyData.eqvAll ds [] = ds.isEmpty := by cases ds <;> simp only [PyData.eqvAll] <;> rfl
theorem shaped_mk {d : PyData} (h : d.canLay0 = true) (k : d.depth ≤ 64) : SeqAt.shaped d = true := by unfold SeqAt.shaped; rw [h, Bool.true_and]; exact decide_eq_true k
theorem isEmpty_eq {xs : List AV} {ds : List PyData} (h : dataNs xs = some ds) : ds.isEmpty = xs.isEmpty := by
  have := dataNs_nil h
  cases ds <;> cases xs <;> simp at this ⊢
theorem eq_nil {neg : Bool} {A : AHp} {x y : AV} {xs : List AV} {Q : AV → AHp → Prop} (h : OkAs 60 xs) (hx : (lsOf A x = some xs ∧ y = .fl []) ∨ (x = .tup xs ∧ y = .tup [])) (q : Q (.bl (if neg then !xs.isEmpty else xs.isEmpty)) A) : eqG neg x y A Q := by
  obtain ⟨ds, a, b, c⟩ := h
  rcases hx with ⟨hx, rfl⟩ | ⟨rfl, rfl⟩
  · have e : dataA A x = some (.list ds) := by
      cases x with
      | fl ys => cases hx; show dataN (.fl xs) = _; rw [dataN, a]; rfl
      | kl ys => cases hx; show dataN (.kl xs) = _; rw [dataN, a]; rfl
      | ref p =>
        unfold lsOf at hx
        unfold dataA
        cases ep : A p with
        | none => simp only [ep] at hx; cases hx
        | some o =>
          cases o with
          | dct _ => simp only [ep] at hx; cases hx
          | lst ys => simp only [ep] at hx ⊢; cases hx; rw [a]; rfl
      | _ => cases hx
    refine ⟨.list ds, .list [], e, rfl, shaped_mk (by simpa only [PyData.canLay0] using b) (by simp only [PyData.depth]; omega), by decide +kernel, ?_⟩
    have e2 : PyData.eqv (.list ds) (.list []) = xs.isEmpty := by
      simp only [PyData.eqv]
      rw [eqvAll_nil, isEmpty_eq a]
    rw [e2]; exact q
  · refine ⟨.tuple ds, .tuple [], by show dataN (.tup xs) = _; rw [dataN, a]; rfl, rfl, shaped_mk (by simpa only [PyData.canLay0] using b) (by simp only [PyData.depth]; omega), by decide +kernel, ?_⟩
    have e2 : PyData.eqv (.tuple ds) (.tuple []) = xs.isEmpty := by
      simp only [PyData.eqv]
      rw [eqvAll_nil, isEmpty_eq a]
    rw [e2]; exact q
theorem dataNs_strs (ss : List Str) : dataNs (ss.map AV.str) = some (ss.map PyData.str) := by
  induction ss with
  | nil => rfl
  | cons x r ih => rw [List.map_cons, dataNs, ih]; rfl
theorem eqvAll_strs : ∀ (ss ts : List Str), PyData.eqvAll (ss.map PyData.str) (ts.map PyData.str) = decide (ss = ts)
  | [], [] => by simp only [List.map_nil, PyData.eqvAll]; rfl
  | [], _ :: _ => by simp [PyData.eqvAll]
  | _ :: _, [] => by simp [PyData.eqvAll]
  | x :: r, y :: s => by
    simp only [List.map_cons, PyData.eqvAll, PyData.eqv, eqvAll_strs r s]
    by_cases h : x = y <;> by_cases h2 : r = s <;> simp [h, h2]
theorem eq_strs {neg : Bool} {A : AHp} {ss ts : List Str} {Q : AV → AHp → Prop} (h : ∀ s ∈ ss, PyData.strOk s = true) (h2 : ∀ s ∈ ts, PyData.strOk s = true) (q : Q (.bl (if neg then !decide (ss = ts) else decide (ss = ts))) A) : eqG neg (.tup (ss.map AV.str)) (.tup (ts.map AV.str)) A Q := by
  have ok : ∀ us : List Str, (∀ s ∈ us, PyData.strOk s = true) → SeqAt.shaped (.tuple (us.map PyData.str)) = true := fun us h => by
    have := OkA.tup (k := 0) (OkAs.all (k := 0) (xs := us.map AV.str) fun x m => by
      obtain ⟨s, m2, rfl⟩ := List.mem_map.mp m
      exact .str (h s m2))
    obtain ⟨d, a, b, c⟩ := this
    rw [dataN, dataNs_strs] at a
    cases a
    exact shaped_mk b (by omega)
  refine ⟨.tuple (ss.map PyData.str), .tuple (ts.map PyData.str), by show dataN (.tup _) = _; rw [dataN, dataNs_strs]; rfl, by show dataN (.tup _) = _; rw [dataN, dataNs_strs]; rfl, ok ss h, ok ts h2, ?_⟩
  have e : PyData.eqv (.tuple (ss.map PyData.str)) (.tuple (ts.map PyData.str)) = decide (ss = ts) := by simp only [PyData.eqv]; exact eqvAll_strs ss ts
  rw [e]; exact q

/-! ### in, ==, != that walks stop at -/
@[irreducible] def inI (neg : Bool) : RA2 := inR neg
theorem inI_eq : inI = inR := by funext neg x y A Q; unfold inI; rfl
@[irreducible] def eqI (neg : Bool) : RA2 := eqG neg
def eqW : RA2 := fun x y A Q => match x, y with
  | .int i, .int j => Q (.bl (decide (i = j))) A
  | .str i, .str j => Q (.bl (decide (i = j))) A
  | x, y => eqI false x y A Q
def neW : RA2 := fun x y A Q => match x, y with
  | .int i, .int j => Q (.bl (!decide (i = j))) A
  | .str i, .str j => Q (.bl (!decide (i = j))) A
  | x, y => eqI true x y A Q
theorem eqW_eq : eqW = eqR := by funext x y A Q; unfold eqW eqR eqI; rfl
theorem neW_eq : neW = neR := by funext x y A Q; unfold neW neR eqI; rfl
section
variable {X : Cx}
theorem ci_in (hu : X.A.units + 1 < cLine) : OpR X (compareOp .In) (lf2 X.K (inI false)) := by rw [inI_eq]; exact c_in hu
theorem ci_notin (hu : X.A.units + 1 < cLine) : OpR X (compareOp .NotIn) (lf2 X.K (inI true)) := by rw [inI_eq]; exact c_notin hu
theorem ci_eq (hu : X.A.units + 64 < cLine) : OpR X (compareOp .Eq) (lf2 X.K eqW) := by rw [eqW_eq]; exact c_eq hu
theorem ci_ne (hu : X.A.units + 64 < cLine) : OpR X (compareOp .NotEq) (lf2 X.K neW) := by rw [neW_eq]; exact c_ne hu
end
variable {neg : Bool} {A : AHp} {Q : AV → AHp → Prop}
theorem in_sign {z : Str} {c : Nat} (q : Q (.bl (if neg then !decide (c ∈ z.cps.toList) else decide (c ∈ z.cps.toList))) A) : inI neg (.str ⟨#[c]⟩) (.str z) A Q := by
  unfold inI; exact ⟨c, rfl, q⟩
theorem in_strs {x : AV} {ns : List Str} {s : Str} (hx : sqOf A x = some (ns.map AV.str)) (q : Q (.bl (if neg then !decide (s ∈ ns) else decide (s ∈ ns))) A) : inI neg (.str s) x A Q := by
  rw [← inV_strs] at q
  unfold inI
  cases x with
  | str z => cases hx
  | _ => exact .inl ⟨_, _, _, hx, rfl, flAs_strs _, q⟩
theorem in_key {p : Addr} {kvs : List (Key × AV)} {x : AV} {k : Key} (h : A p = some (.dct kvs)) (hk : keyA x = some k) (q : Q (.bl (if neg then !(valA kvs k).isSome else (valA kvs k).isSome)) A) : inI neg x (.ref p) A Q := by
  unfold inI
  exact .inr ⟨kvs, k, dcOf_ref h, hk, q⟩
theorem in_dct {p : Addr} {kvs : List (Key × AV)} {z : Str} {v : AV} (h : A p = some (.dct kvs)) (e : valA kvs (.inr z) = some v) (q : Q (.bl (if neg then false else true)) A) : inI neg (.str z) (.ref p) A Q := by
  refine in_key h rfl ?_
  rw [e]
  cases neg <;> exact q
theorem ei_nil {x y : AV} {xs : List AV} (h : OkAs 60 xs) (hx : (lsOf A x = some xs ∧ y = .fl []) ∨ (x = .tup xs ∧ y = .tup [])) (q : Q (.bl (if neg then !xs.isEmpty else xs.isEmpty)) A) : eqI neg x y A Q := by unfold eqI; exact eq_nil h hx q
theorem ei_strs {ss ts : List Str} (h : ∀ s ∈ ss, PyData.strOk s = true) (h2 : ∀ s ∈ ts, PyData.strOk s = true) (q : Q (.bl (if neg then !decide (ss = ts) else decide (ss = ts))) A) : eqI neg (.tup (ss.map AV.str)) (.tup (ts.map AV.str)) A Q := by unfold eqI; exact eq_strs h h2 q

/-! ### stores, methods that walks stop at -/
@[irreducible] def getI : TIpa := getV
@[irreducible] def setI : TSeta := setV
@[irreducible] def nApp : RMa := nAppend
@[irreducible] def nIdx : RMa := nIndex
@[irreducible] def nPopI : RMa := nPopAt
section
variable {X : Cx}
theorem wi_get (hu : X.A.units + 1 < cLine) : PGet X (lfGet X.K getI) := by unfold getI; exact wt_get hu
theorem wi_set (hu : X.A.units + 1 < cLine) : PSet X (lfSet X.K setI) := by unfold setI; exact wt_set hu
theorem ni_app : MtR X "list.append" (lfM X.K nApp) := by unfold nApp; exact n_append
theorem ni_idx : MtR X "list.index" (lfM X.K nIdx) := by unfold nIdx; exact n_index
theorem ni_pop : MtR X "list.pop" (lfM X.K nPopI) := by unfold nPopI; exact n_popAt
end
section
variable {A : AHp} {Q : AV → AHp → Prop} {R : AHp → Prop} {p : Addr} {xs : List AV} {k : Int} {v : AV}
theorem getI_lst (h : A p = some (.lst xs)) (h0 : 0 ≤ k) (e : xs[k.toNat]? = some v) (q : Q v A) : getI (.ref p) (.int k) A Q := by
  unfold getI getV
  simp only [h, if_pos h0, e]
  exact q
theorem setI_lst (h : A p = some (.lst xs)) (h0 : 0 ≤ k) (h1 : k < xs.length) (q : R (updA A p (.lst (xs.set k.toNat v)))) : setI (.ref p) (.int k) v A R := by
  unfold setI setV
  have e : ixN xs.length k = some k.toNat := by unfold ixN; rw [if_pos h0, if_pos h1]
  simp only [h, e]
  exact q
theorem setI_dct {kvs : List (Key × AV)} {i : AV} {k : Key} (h : A p = some (.dct kvs)) (hk : keyA i = some k) (hl : kvs.length < sizeLine) (q : R (updA A p (.dct (putA kvs k v)))) : setI (.ref p) i v A R := by
  unfold setI setV
  simp only [h, hk]
  exact ⟨hl, q⟩
theorem nApp_lst {y : AV} (h : A p = some (.lst xs)) (hl : xs.length < sizeLine) (q : Q .non (updA A p (.lst (xs ++ [y])))) : nApp (.ref p) [y] A Q := by
  unfold nApp nAppend
  simp only [h]
  exact ⟨hl, q⟩
theorem nIdx_at {x y : AV} {j : Nat} (hx : lsOf A x = some xs) (hj : atV xs y = some j) (q : Q (.int (j : Nat)) A) : nIdx x [y] A Q := by
  unfold nIdx nIndex
  simp only [hx, hj]
  exact q
theorem nPopI_at (h : A p = some (.lst xs)) (h0 : 0 ≤ k) (hl : xs.length ≤ 16777216) (e : xs[k.toNat]? = some v) (q : Q v (updA A p (.lst (xs.eraseIdx k.toNat)))) : nPopI (.ref p) [.int k] A Q := by
  unfold nPopI nPopAt
  simp only [h, e]
  exact ⟨h0, hl, q⟩
theorem updA_self {o : AO} (h : A p = some o) : updA A p o = A := by
  funext b
  by_cases e : b = p
  · subst e; rw [updA_same, h]
  · rw [updA_ne e]
end
end D

set_option Elab.async false
set_option linter.all false
set_option maxRecDepth 100000
namespace D
open PySem PySem.Spec L2
section
variable {X : Cx}
/-- the items of a list that the program made -/
def madeLs (A : AHp) : AV → Option (List AV)
  | .fl xs => some xs
  | .ref p => match A p with
    | some (.lst xs) => some xs
    | _ => none
  | _ => none
theorem madeLs_ok {K : PySem.W.Frag} {H : Hp} {A : AHp} {a : AV} {v : V} {xs : List AV} (r : RepV K H A a v) (g : RH K A H) (h : madeLs A a = some xs) : ∃ p vs, v = .ref p ∧ H p = some (.lst vs) ∧ RepVs K H A xs vs := by
  cases r with
  | fl f rs => cases h; exact ⟨_, _, rfl, f.1, rs⟩
  | ref p =>
    unfold madeLs at h
    cases e : A p with
    | none => simp only [e] at h; cases h
    | some o =>
      cases o with
      | dct _ => simp only [e] at h; cases h
      | lst ys =>
        simp only [e] at h
        cases h
        obtain ⟨u, h1, vs, rfl, h2⟩ := g p _ e
        exact ⟨p, vs, rfl, h1, h2⟩
  | _ => cases h
/-- list + list -/
def addL : RA2 := fun x y A Q => match madeLs A x with
  | some a => (match madeLs A y with | some b => a.length + b.length ≤ sizeLine ∧ Q (.fl (a ++ b)) A | none => False)
  | none => False
theorem o_addL : OpR X (binaryOp .Add) (lf2 X.K addL) := by
  intro pins s σ H x y v u Q I rx ry ⟨a, b, A, Q', ra, rb, g, r, P⟩
  unfold addL at r
  split at r
  · rename_i xs h1
    split at r
    · rename_i ys h2
      obtain ⟨p, vs, rfl, hp, r1⟩ := madeLs_ok ra g h1
      obtain ⟨q, us, rfl, hq, r2⟩ := madeLs_ok rb g h2
      exact op_cat pins s σ H _ _ v u Q I rx ry ⟨p, q, vs, us, rfl, rfl, hp, hq, by rw [← r1.length, ← r2.length]; exact r.1, fun o ho => new_fl P g ho (r1.append r2) r.2⟩
    · exact r.elim
  · exact r.elim
/-- x in a list of data -/
@[irreducible] def inD (neg : Bool) : RA2 := fun x y A Q => ∃ d ds, dataA A x = some d ∧ dataA A y = some (.list ds) ∧ SeqAt.shaped d = true ∧ SeqAt.shaped (.list ds) = true ∧
  Q (.bl (if neg then !(ds.any fun z => PyData.eqv z d) else ds.any fun z => PyData.eqv z d)) A
theorem ci_inD (hu : X.A.units + 65 < cLine) : OpR X (compareOp .In) (lf2 X.K (inD false)) := by
  intro pins s σ H x y v u Q I rx ry ⟨a, b, A, Q', ra, rb, g, r, P⟩
  unfold inD at r
  obtain ⟨d, ds, h1, h2, h3, h4, q⟩ := r
  exact op_inD hu pins s σ H _ _ v u Q I rx ry ⟨d, ds, dataA_ok ra g h1, dataA_ok rb g h2, h3, h4, P _ _ _ _ (.bl _) g .refl q⟩
theorem ci_notinD (hu : X.A.units + 65 < cLine) : OpR X (compareOp .NotIn) (lf2 X.K (inD true)) := by
  intro pins s σ H x y v u Q I rx ry ⟨a, b, A, Q', ra, rb, g, r, P⟩
  unfold inD at r
  obtain ⟨d, ds, h1, h2, h3, h4, q⟩ := r
  exact op_notInD hu pins s σ H _ _ v u Q I rx ry ⟨d, ds, dataA_ok ra g h1, dataA_ok rb g h2, h3, h4, P _ _ _ _ (.bl _) g .refl q⟩
theorem units65 {k : Nat} {A : Around} (hr : Room k A) : A.units + 65 < cLine := by have := hr.un; omega
end
end D

set_option Elab.async false
set_option linter.all false
set_option maxRecDepth 100000
/-! D15: raise, calls that raise, try with any clauses. -/
namespace D
open PySem PySem.Spec L2

/-! ### try, on the concrete side -/
/-- a clause: its class, the slot of its name, what its suite wishes -/
structure HdC where
  c : Value
  i : Option Nat
  ts : Addr → Value → Option Addr → TS
def endsH (D : Ends) : Option Nat → Ends
  | none => D
  | some i => { nx := fun σ H => D.nx (σ.set i none) H, rt := D.rt, bk := fun σ H => D.bk (σ.set i none) H, ct := fun σ H => D.ct (σ.set i none) H }
def slotH (σ : L2.St) (a : Addr) : Option Nat → L2.St
  | none => σ
  | some i => σ.set i (some (.ref a))
def wH (K : PySem.W.Frag) (Wo : WX) (D : Ends) : List HdC → WX
  | [] => Wo
  | h :: r => fun cls d σ H => ∃ b, PySem.W.exmOne K cls h.c = some b ∧ (b = true → ∀ a, H a = none → h.ts a cls d (endsH D h.i) (slotH σ a h.i) H) ∧ (b = false → wH K Wo D r cls d σ H)
def SuOk (X : Cx) (suite : List Stmt) (ts : Addr → Value → Option Addr → TS) : Prop :=
  ∀ (a : Addr) (oe : Obj) (cls : Value) (d : Option Addr) (pn : List (Addr × Obj)), Zc cls d oe → (∃ vs, oe.data = .fields vs) → PSs (X.suite a ((a, oe) :: pn)) suite (ts a cls d)
inductive HdsX (X : Cx) : List ExceptHandler → List HdC → Prop
  | nil : HdsX X [] []
  | plain {x : Str} {c : Value} {ts : Addr → Value → Option Addr → TS} {b : Stmt} {su : List Stmt} {np p : Pos} {hds : List ExceptHandler} {l : List HdC} (hc : Names X x c) (hsu : SuOk X (b :: su) ts) (r : HdsX X hds l) :
      HdsX X (.ExceptHandler (some (.Name x np)) none (b :: su) p :: hds) (⟨c, none, ts⟩ :: l)
  | named {x n : Str} {i : Nat} {c : Value} {ts : Addr → Value → Option Addr → TS} {b : Stmt} {su : List Stmt} {np p : Pos} {hds : List ExceptHandler} {l : List HdC} (hc : Names X x c) (hi : X.N[i]? = some n) (hl : X.env.kindOf n = some .local)
      (hsu : SuOk X (b :: su) ts) (r : HdsX X hds l) : HdsX X (.ExceptHandler (some (.Name x np)) (some n) (b :: su) p :: hds) (⟨c, some i, ts⟩ :: l)

section
variable {X : Cx} {body : List Stmt} {hd : ExceptHandler} {hds : List ExceptHandler} {l : List HdC} {pos : Pos} {tb : WX → TS} {Wo : WX}
theorem ps_tryX (hs : X.stack = X.env :: X.outer) (hf : X.env.frame = some X.env.locals) (hN : X.N.Nodup) (tk : Takes X Wo)
    (hb : ∀ (W : WX) (pn : List (Addr × Obj)) (xe : Value → Shared → Prop), Takes (X.tr pn xe) W → PassesOwn (model X.prog X.w) X.A X.env xe → PSs (X.tr pn xe) body (tb W))
    (hh : HdsX X (hd :: hds) l) : PS X (.Try body (hd :: hds) [] [] pos) (fun D σ H => tb (wH X.K Wo D l) D σ H) := by
  refine ⟨fun pins s σ H D I h => wpAny_Try_except ?_⟩
  have ok := I.ok
  have frames : X.A.frames = some (X.env :: X.outer) := ok.frames.trans (congrArg some hs)
  have T : Takes (X.tr (X.pn ++ pins) fun e s₁ => wpAny (model X.prog X.w) X.A (noteFrame e X.env) (fun _ s₂ => wpAny (model X.prog X.w) X.A (setFlight e none) (fun _ s₃ => wpAny (model X.prog X.w) X.A (handleBy e X.env (hd :: hds)) (SP X pins D) X.xe s₃) X.xe s₂) X.xe s₁) (wH X.K Wo D l) := by
    rintro _ s' ⟨a, B, sI, pins', σ', H', cls, d, rfl, J', nb, up, sky, na, os, ag, w⟩
    show wpAny (model X.prog X.w) X.A (noteFrame (.ref a) X.env) _ _ _
    have J : Inv X pins σ' H' sI := J'.ofTry ok
    have sky2 : Sky B (X.env :: X.outer) a (Zc cls d) X.env.locals s'.heap := by rw [← hs]; exact sky
    refine Sky.land Zc.steady frames hf sky2 fun h3 fly up3 => ?_
    have J3 : Inv X pins σ' H' { s' with heap := h3 } := J.landed nb fly.1 (up.trans up3) os ag
    obtain ⟨oe, vs, at3, z3, d3⟩ := fly.there
    have away : a ∉ frs (X.env :: X.outer) := fun hm => by
      obtain ⟨_, o', e', hnf⟩ := fly.2.2.1.mem hm
      rw [at3] at e'; cases e'
      exact hnf _ d3
    have nL : a ≠ X.env.locals := fun z => away (List.mem_filterMap.mpr ⟨X.env, List.mem_cons_self, by rw [hf, z]⟩)
    have nF : a ∉ X.fs := fun hm => let ⟨e, he, q⟩ := List.mem_filterMap.mp hm; away (List.mem_filterMap.mpr ⟨e, List.mem_cons_of_mem _ he, q⟩)
    have S3 := J3.suite at3 d3 na nL nF
    have go : ∀ {hs' : List ExceptHandler} {l' : List HdC}, HdsX X hs' l' → wH X.K Wo D l' cls d σ' H' → wpAny (model X.prog X.w) X.A (handleBy (.ref a) X.env hs') (SP X pins D) X.xe { s' with heap := h3 } := by
      intro hs' l' hk
      have LT : PySem.W.Looks (model X.prog X.w) h3 (typeOf (.ref a)) cls := fun A Q E s k q => wpAny_typeOf_ref (k _ _ at3) (by rw [z3.1]; exact q)
      have clause : ∀ {x : Str} {c : Value} {np : Pos} {Q E : Value → Shared → Prop}, Names X x c → Q c { s' with heap := h3 } → wpAny (model X.prog X.w) (X.A.mark (some (.ref a))) (eval (.Name x np) X.env) Q E { s' with heap := h3 } := by
        rintro x c np Q E ⟨hg, hdbg, hm | ⟨hm, hv, hnn⟩⟩ q
        · exact ld_glob (X := X.suite a ((a, oe) :: (X.pn ++ pins))) S3 hg hm q hdbg
        · exact ld_blt (X := X.suite a ((a, oe) :: (X.pn ++ pins))) S3 hg hm hv q hnn hdbg
      have land4 : ∀ {h4 : Heap}, HandSPX.FlyingZ B (X.env :: X.outer) a (Zc cls d) h4 → h3.UpToSlots h4 → ∃ oe4 vs4, Zc cls d oe4 ∧ oe4.data = .fields vs4 ∧ Inv (X.suite a ((a, oe4) :: (X.pn ++ pins))) [] σ' H' { s' with heap := h4 } := by
        intro h4 fl4 up4
        obtain ⟨oe4, vs4, e4, z4, d4⟩ := fl4.there
        exact ⟨oe4, vs4, z4, d4, (J.landed (s' := { s' with heap := h4 }) nb fl4.1 ((up.trans up3).trans up4) os ag).suite e4 d4 na nL nF⟩
      induction hk with
      | nil =>
        intro w
        obtain ⟨_, _, _, _, _, Tb, _, ts', f1, _, f2, f3, f4⟩ := id fly
        refine wpAny_handleBy_nil ?_
        unfold PySem.passOn
        refine wpAny_bind (wpAny_field f1 f2 f3 ?_)
        rw [if_neg (show ¬ ((Value.ref Tb == Value.none) = true) from by simp)]
        have out : wpAny (model X.prog X.w) X.A (setFlight (.ref a) X.env.frame) (fun _ s4 => wpAny (model X.prog X.w) X.A (throw (.ref a) : Sem Flow) (SP X pins D) X.xe s4) X.xe { s' with heap := h3 } := by
          rw [hf]
          exact HandSPX.setFlight_upZ fly fun h4 held up4 => wpAny_throw (tk _ _ ⟨a, B, sI, pins, σ', H', cls, d, rfl, J, nb, (up.trans up3).trans up4, .inr (.inr (by rw [hs]; exact held)), na, os, ag, w⟩)
        first
          | exact wpAny_bind (wpAny_pure (wpAny_bind out))
          | exact wpAny_bind out
      | plain hc hsu r ih =>
        rintro ⟨b, hb1, yes, no⟩
        refine wpAny_handleBy_cons (codeAny_handlers_test (clause hc ((PySem.W.exm_one (M := model X.prog X.w) J3.kIn LT hb1).here ?_))) (by intro q; cases q)
        cases b with
        | false => exact ih (no rfl)
        | true =>
          refine codeAny_handlers_suite (HandSPX.lands_againZ fly fun h4 fl4 up4 => ?_)
          obtain ⟨oe4, vs4, z4, d4, S4⟩ := land4 fl4 up4
          refine wpAny_mono ((hsu a oe4 cls d (X.pn ++ pins) z4 ⟨_, d4⟩).run [] _ _ H' _ S4 (yes rfl a na)) (fun f s6 sp => ?_) (fun _ _ z => False.elim z)
          cases f with
          | ret u => obtain ⟨v6, σ6, H6, S6, r6, q6⟩ := sp; exact ⟨_, _, _, S6.unsuite ok, r6, q6⟩
          | _ => obtain ⟨σ6, H6, S6, q6⟩ := sp; exact ⟨_, _, S6.unsuite ok, q6⟩
      | named hc hi hl hsu r ih =>
        rintro ⟨b, hb1, yes, no⟩
        refine wpAny_handleBy_cons (codeAny_handlers_test (clause hc ((PySem.W.exm_one (M := model X.prog X.w) J3.kIn LT hb1).here ?_))) (by intro q; cases q)
        cases b with
        | false => exact ih (no rfl)
        | true =>
          refine codeAny_handlers_suite_as (HandSPX.lands_againZ fly fun h4 fl4 up4 => ?_)
          obtain ⟨oe4, vs4, z4, d4, S4⟩ := land4 fl4 up4
          refine store_ok (X := X.suite a ((a, oe4) :: (X.pn ++ pins))) (v := .ref a) S4 hN hi (.inl hl) rfl (fun s5 S5 => ?_) (.inr hl)
          refine wpAny_mono ((hsu a oe4 cls d (X.pn ++ pins) z4 ⟨_, d4⟩).run [] s5 _ H' _ S5 (yes rfl a na)) (fun f s6 sp => ?_) (fun _ _ z => False.elim z)
          have fin : ∀ {σ6 : L2.St} {H6 : Hp} {p : Pos} {Q : Shared → Prop}, Inv (X.suite a ((a, oe4) :: (X.pn ++ pins))) [] σ6 H6 s6 → (∀ s7, Inv X pins (σ6.set _ none) H6 s7 → Q s7) →
              wpAny (model X.prog X.w) X.A (do bindName X.env _ .none; unbindBehindTheSuite X.env _ p) (fun _ s7 => Q s7) X.xe s6 := fun S6 hq => gone_ok (S6.unsuite ok) hN hi hl hq
          cases f with
          | ret u => obtain ⟨v6, σ6, H6, S6, r6, q6⟩ := sp; exact fin S6 fun s7 J7 => ⟨_, _, _, J7, r6, q6⟩
          | _ => obtain ⟨σ6, H6, S6, q6⟩ := sp; exact fin S6 fun s7 J7 => ⟨_, _, J7, q6⟩
    exact go hh w
  refine wpAny_mono ((hb (wH X.K Wo D l) (X.pn ++ pins) _ T PassesOwn.looking).run [] s σ H D (I.toTry _) h) (fun f s1 sp => ?_) (fun e s1 he => he)
  cases f with
  | next => obtain ⟨σ', H', J', q⟩ := sp; exact wpAny_execs_nil ⟨σ', H', J'.ofTry ok, q⟩
  | ret u => obtain ⟨v, σ', H', J', r, q⟩ := sp; exact ⟨v, σ', H', J'.ofTry ok, r, q⟩
  | _ => obtain ⟨σ', H', J', q⟩ := sp; exact ⟨σ', H', J'.ofTry ok, q⟩
end
end D

set_option Elab.async false
set_option linter.all false
set_option maxRecDepth 100000
/-! D16: exceptions in readings. -/
namespace D
open PySem PySem.Spec L2

/-! ### expressions that may raise -/
abbrev TXa := AEnv → AHp → (AV → AHp → Prop) → (AV → AHp → Prop) → Prop
def lfX (X : Cx) (t : TXa) : TE := fun σ H Q => ∃ env AH Q' E', RepE X.K H AH env σ ∧ RH X.K AH H ∧ t env AH Q' E' ∧ Post X.K (RepV X.K) AH H Q' Q ∧ PostX X.K X.mg AH H E' fun cls d H' => WOf X cls d σ H'
abbrev DX (X : Cx) (e : Expr) (t : TXa) : Prop := PE X e (lfX X t)
section
variable {X : Cx} {k j : Nat} {ps : List Str} {x : Str} {p pos : Pos} {e : Expr} {es : List Expr} {t : TAa} {te : TXa} {tv : TEa}
def aPlain (tv : TEa) : TXa := fun e A Q _ => tv e A Q
theorem dx_of (h : DE X e tv) : DX X e (aPlain tv) := pe_weak h fun σ H Q ⟨env, A, Q', E', re, g, q, P, Px⟩ => ⟨env, A, Q', re, g, q, P⟩
def aCallX (sp : Spx) (t : TAa) : TXa := fun e A Q E => t e A fun vs A1 => sp vs A1 Q E
theorem dx_has {sp : Spx} (F : HasX X.prog X.w X.K X.mg X.base k x ps sp) (hr : RoomG j X.A) (hg : Gl X x) (ha : DA X (e :: es) t) (hj : k ≤ j := by decide)
    (hdb : (x == ("__debug__" : Str)) = false := by decide) (he : starEach (e :: es) X.env = (false, eval e X.env) :: starEach es X.env := by rfl) (hpl : (backTo pos (starEach es X.env)).any (·.1) = false := by rfl) :
    DX X (.Call (.Name x p) (e :: es) [] pos) (aCallX sp t) := by
  obtain ⟨f, fd, a, b, c, d, _⟩ := F.ex
  exact pe_weak (pe_go (E := fun σ cls d H => WOf X cls d σ H) (d.less hj) hr hg a b c (fun σ => passAt (takes_WOf X) σ) ha hdb he hpl) fun σ H Q ⟨env, A, Q', E', re, g, q, P, Px⟩ =>
    ⟨env, A, _, re, g, q, fun as A1 vs H1 rs g1 s1 q1 => ⟨as, A1, Q', E', rs, g1, q1, P.trans s1, Px.trans s1⟩⟩

/-! ### statements over them -/
theorem EndOk.px {AH : AHp} {H : Hp} {D' : EndsA} {D : Ends} {env : AEnv} {σ : L2.St} (P : EndOk X AH H D' D) (re : RepE X.K H AH env σ) : PostX X.K X.mg AH H (fun x A' => D'.ex x env A') fun cls d H' => WOf X cls d σ H' :=
  fun x cls d A1 H1 rx g1 s1 q1 => P.ex x cls d env A1 σ H1 rx (re.step s1) g1 s1 q1
def sDropX (te : TXa) : TSa := fun D e A => te e A (fun _ A1 => D.nx e A1) fun x A1 => D.ex x e A1
theorem ds_exprX (he : DX X e te) (hs : swapsWith e none pos.line X.env = pure false := by rfl) : DS X (.Expr e pos) (sDropX te) := ps_weak (ps_expr he hs) fun D σ H ⟨env, A, D', re, g, q, P⟩ =>
  ⟨env, A, _, _, re, g, q, fun v A1 u H1 r g1 s1 q1 => P.nx _ _ _ _ (re.step s1) g1 s1 q1, P.px re⟩
def sRetX (te : TXa) : TSa := fun D e A => te e A D.rt fun x A1 => D.ex x e A1
theorem ds_retX (he : DX X e te) : DS X (.Return (some e) pos) (sRetX te) := ps_weak (ps_ret he) fun D σ H ⟨env, A, D', re, g, q, P⟩ => ⟨env, A, _, _, re, g, q, fun v A1 u H1 r g1 s1 q1 => P.rt _ _ _ _ r g1 s1 q1, P.px re⟩
def sAsgX (te : TXa) (t : TGa) : TSa := fun D e A => te e A (fun x A1 => t x e A1 D.nx) fun x A1 => D.ex x e A1
theorem asg_useX {g : TG} {t : TGa} {D : Ends} {σ : L2.St} {H : Hp} (gl : GL X.K g t) (h : lfS X (sAsgX te t) D σ H) : tAsg (lfX X te) g D σ H := by
  obtain ⟨env, A, D', re, g0, q, P⟩ := h
  exact ⟨env, A, _, _, re, g0, q, fun x A1 v H1 rx g1 s1 q1 => gl _ _ _ _ ⟨x, env, A1, _, rx, re.step s1, g1, q1, fun e2 A2 σ2 H2 re2 g2 s2 q2 => P.nx _ _ _ _ re2 g2 (s1.trans s2) q2⟩, P.px re⟩
theorem ds_asgX {tg : Expr} {g : TG} {t : TGa} (he : DX X e te) (hg : PG X tg g) (gl : GL X.K g t) (hs : swapsWithSole [tg] e pos.line X.env = pure false := by rfl) (hw : swappedStores [tg] e X.env = pure none := by rfl)
    (h1 : (assignEach [tg] X.env).map (·.2) = [assign tg X.env] := by rfl) : DS X (.Assign [tg] e pos) (sAsgX te t) := ps_weak (ps_asg he hg hs hw h1) fun D σ H h => asg_useX gl h
theorem ds_setX {i : Nat} {pos' : Pos} (hN : X.N.Nodup) (hi : X.N[i]? = some x) (hx : Loc X.env.scope x) (he : DX X e te) (hs : swapsWith e (some (.Name x pos')) pos.line X.env = pure false := by rfl) (hf : X.fn x = true ∨ X.env.scope.names.lookup x = some .local := by first | exact .inl rfl | exact .inr rfl | assumption) :
    DS X (.Assign [.Name x pos'] e pos) (sAsgX te (hName i)) := ps_weak (ps_set hN hi hx he hs hf) fun D σ H h => asg_useX gl_name h
end

/-! ### an exception of the program: made and raised -/
/-- what its __init__ does: self.f = v -/
def spIni (C : Addr) (f : Str) : Sp := fun vs H Q _ => ∃ (a : Addr) (v : V), vs = [.ref a, v] ∧ H a = some (exo a C none) ∧ ∀ dx, H dx = none → dx ≠ a → Q .non (upd (upd H dx (exd dx [(f, v)])) a (exo a C (some dx)))
/-- an exception class: its name, its field -/
structure ErrAt (P : Program) (w : World) (K : PySem.W.Frag) (mg : Str → Option Value) (base : Heap) (n f : Str) (C : Addr) : Prop where
  at_ : mg n = some (.ref C)
  ox : OexC K C
  xf : XfC K C
  no : PySem.W.findIn K (.ref C) f = some none
  ini : ∃ (fI : Addr) (fd : FuncData) (ps : List Str), PySem.W.findIn K (.ref C) "__init__" = some (some (.ref fI)) ∧ PySem.W.typeIn K (.ref fI) = some (.type "function") ∧ Binds K fd ps [] ∧ FnOk P w K mg base (L2.CX P w) 1 fI fd ps (spIni C f)
def ErrOk (P : Program) (w : World) (K : PySem.W.Frag) (mg : Str → Option Value) (base : Heap) (n f : Str) : Prop := ∃ C, ErrAt P w K mg base n f C
section
variable {X : Cx} {n f : Str} {C : Addr} {e : Expr} {te : TEa} {p pos pos2 : Pos}
def sRaise (n f : Str) (te : TEa) : TSa := fun D e A => te e A fun v A1 => D.ex (.exc n f v) e A1
theorem del_upd_xd {H1 : Hp} {a dx : Addr} {o u w : HO} (ha : H1 a = none) (hne : dx ≠ a) : upd (del (upd (upd H1 dx o) a u) a) dx w = upd H1 dx w := by
  funext b
  by_cases h : b = dx
  · rw [h, upd_same, upd_same]
  · rw [upd_ne h, upd_ne h]
    by_cases g : b = a
    · rw [g, del_same, ha]
    · rw [del_ne g, upd_ne g, upd_ne h]
theorem ds_raise (T : ErrOk X.prog X.w X.K X.mg X.base n f) (hc : X.calm = true) (hr : Room 2 X.A) (hg : Gl X n) (he : DE X e te)
    (hdb : (n == ("__debug__" : Str)) = false := by decide) (hst : starEach [e] X.env = (false, eval e X.env) :: starEach [] X.env := by rfl) (hpl : (backTo pos (starEach [] X.env)).any (·.1) = false := by rfl) :
    DS X (.Raise (some (.Call (.Name n p) [e] [] pos)) none pos2) (sRaise n f te) := by
  obtain ⟨C, T⟩ := T
  obtain ⟨fI, fd, ps, i1, i2, i3, i4⟩ := T.ini
  refine ps_weak (ps_raise hc (takes_WOf X) (pmk_oex T.ox i1 i2 i4 hr i3 .nil passL hg T.at_ (pa_cons he pa_nil hst) hdb hst hpl)) fun D σ H ⟨env, A, D', re, g, q, P⟩ => ?_
  refine ⟨env, A, _, re, g, q, fun v A1 u H1 r g1 s1 q1 => ?_⟩
  refine ⟨by simp, fun a ha => ⟨a, u, rfl, upd_same, fun dx hdx hne => ⟨rfl, dx, [(f, u)], upd_same, by rw [upd_ne hne, upd_same], ?_, ?_⟩⟩⟩
  · rw [upd_ne hne] at hdx; exact hdx
  · have hd1 : H1 dx = none := by rw [upd_ne hne] at hdx; exact hdx
    have e1 : upd (del (upd (upd (upd H1 a (exo a C none)) dx (exd dx [(f, u)])) a (exo a C (some dx))) a) dx (.xd [(f, u)]) = upd H1 dx (.xd [(f, u)]) := by
      funext b
      by_cases h : b = dx
      · rw [h, upd_same, upd_same]
      · rw [upd_ne h, upd_ne h]
        by_cases g : b = a
        · rw [g, del_same, ha]
        · rw [del_ne g, upd_ne g, upd_ne h, upd_ne g]
    rw [e1]
    have st := Step.fz (K := X.K) (AH := A1) (u := .xd [(f, u)]) hd1
    refine P.ex _ _ _ env A1 σ _ ⟨n, f, v, C, dx, rfl, T.at_, rfl, rfl, fun b => .cgt ⟨upd_same, g1.noneA hd1⟩ (by show List.lookup f [(f, u)] = some u; simp [List.lookup]) (r.step st)⟩ (re.step (s1.trans st)) (g1.fz hd1) (s1.trans st) q1

/-! ### the exception that was caught -/
def aXf (a d : Addr) (f : Str) (te : TEa) : TEa := fun e A Q => te e A fun x A1 => ∃ v, x = .cgt a d f v ∧ Q v A1
theorem de_xf {a d : Addr} {oe : Obj} {pn : List (Addr × Obj)} (T : XfC X.K C) (hno : PySem.W.findIn X.K (.ref C) f = some none) (hz : Zc (.ref C) (some d) oe) (hf : ∃ vs, oe.data = .fields vs) (he : DE (X.suite a ((a, oe) :: pn)) e te)
    (hb : attributeBase e f X.env (eval e X.env) = eval e X.env := by rfl) : DE (X.suite a ((a, oe) :: pn)) (.Attribute e f pos) (aXf a d f te) :=
  pe_weak (pe_xf T hno hz hf he hb) fun σ H Q ⟨env, A, Q', re, g, q, P⟩ => ⟨env, A, _, re, g, q, fun x A1 u H1 r g1 s1 ⟨v, hx, q1⟩ => by
    subst hx
    cases r with
    | cgt h1 h2 h3 => exact ⟨rfl, rfl, d, _, _, rfl, h1.1, h2, P _ _ _ _ h3 g1 s1 q1⟩⟩
end

/-! ### try -/
structure HdD where
  x : Str
  i : Option Nat
  ts : Addr → Addr → TSa
def endsD (D : EndsA) : Option Nat → EndsA
  | none => { D with ex := fun _ _ _ => False }
  | some i => { nx := fun e A => D.nx (e.set i none) A, rt := D.rt, bk := fun e A => D.bk (e.set i none) A, ct := fun e A => D.ct (e.set i none) A }
def slotD (e : AEnv) (a d : Addr) (f : Str) (v : AV) : Option Nat → AEnv
  | none => e
  | some i => e.set i (some (.cgt a d f v))
def tryH (sub : Str → Str → Bool) (n f : Str) (v : AV) (D : EndsA) (e : AEnv) (A : AHp) : List HdD → Prop
  | [] => D.ex (.exc n f v) e A
  | h :: r => bif sub n h.x then ∀ a d, h.ts a d (endsD D h.i) (slotD e a d f v h.i) A else tryH sub n f v D e A r
def tryX (errs : List Str) (sub : Str → Str → Bool) (D : EndsA) (l : List HdD) : AV → AEnv → AHp → Prop
  | .exc n f v, e, A => n ∈ errs ∧ tryH sub n f v D e A l
  | _, _, _ => False
def sTry (errs : List Str) (sub : Str → Str → Bool) (tb : TSa) (l : List HdD) : TSa := fun D e A => tb { D with ex := tryX errs sub D l } e A
section
variable {X : Cx} {errs : List Str} {sub : Str → Str → Bool}
/-- the class that a clause names, and what it catches -/
def ClsD (X : Cx) (errs : List Str) (sub : Str → Str → Bool) (x : Str) (c : Value) : Prop := Names X x c ∧ ∀ n ∈ errs, ∀ C, X.mg n = some (.ref C) → PySem.W.exmOne X.K (.ref C) c = some (sub n x)
def SuD (X : Cx) (errs : List Str) (suite : List Stmt) (ts : Addr → Addr → TSa) : Prop :=
  ∀ (a d : Addr) (oe : Obj) (n : Str) (C : Addr) (pn : List (Addr × Obj)), n ∈ errs → X.mg n = some (.ref C) → Zc (.ref C) (some d) oe → (∃ vs, oe.data = .fields vs) → DSs (X.suite a ((a, oe) :: pn)) suite (ts a d)
inductive HdsD (X : Cx) (errs : List Str) (sub : Str → Str → Bool) : List ExceptHandler → List HdD → Prop
  | nil : HdsD X errs sub [] []
  | plain {x : Str} {c : Value} {ts : Addr → Addr → TSa} {b : Stmt} {su : List Stmt} {np p : Pos} {hds : List ExceptHandler} {l : List HdD} (hc : ClsD X errs sub x c) (hsu : SuD X errs (b :: su) ts) (r : HdsD X errs sub hds l) :
      HdsD X errs sub (.ExceptHandler (some (.Name x np)) none (b :: su) p :: hds) (⟨x, none, ts⟩ :: l)
  | named {x n : Str} {i : Nat} {c : Value} {ts : Addr → Addr → TSa} {b : Stmt} {su : List Stmt} {np p : Pos} {hds : List ExceptHandler} {l : List HdD} (hc : ClsD X errs sub x c) (hi : X.N[i]? = some n) (hl : X.env.kindOf n = some .local)
      (hsu : SuD X errs (b :: su) ts) (r : HdsD X errs sub hds l) : HdsD X errs sub (.ExceptHandler (some (.Name x np)) (some n) (b :: su) p :: hds) (⟨x, some i, ts⟩ :: l)
/-- an except suite's reading, on the concrete side -/
def tsOf (X : Cx) (errs : List Str) (ts : Addr → Addr → TSa) : Addr → Value → Option Addr → TS := fun a cls d D σ H => ∃ n C dd env A D', n ∈ errs ∧ X.mg n = some (.ref C) ∧ cls = .ref C ∧ d = some dd ∧ RepE X.K H A env σ ∧ RH X.K A H ∧
  ts a dd D' env A ∧ (∀ x e A', ¬ D'.ex x e A') ∧ (∀ e A' σ' H', RepE X.K H' A' e σ' → RH X.K A' H' → Step A H A' H' → D'.nx e A' → D.nx σ' H') ∧ (∀ v A' u H', RepV X.K H' A' v u → RH X.K A' H' → Step A H A' H' → D'.rt v A' → D.rt u H') ∧
  (∀ e A' σ' H', RepE X.K H' A' e σ' → RH X.K A' H' → Step A H A' H' → D'.bk e A' → D.bk σ' H') ∧ (∀ e A' σ' H', RepE X.K H' A' e σ' → RH X.K A' H' → Step A H A' H' → D'.ct e A' → D.ct σ' H')
theorem su_of {suite : List Stmt} {ts : Addr → Addr → TSa} (h : SuD X errs suite ts) : SuOk X suite (tsOf X errs ts) := fun a oe cls d pn hz hf => ⟨fun pins s σ H D I ⟨n, C, dd, env, A, D', hn, hm, hcls, hd, re, g, q, hx, p1, p2, p3, p4⟩ => by
  subst hcls hd
  exact (h a dd oe n C pn hn hm hz hf).run pins s σ H D I ⟨env, A, D', re, g, q, p1, p2, p3, p4, fun x _ _ e A' _ _ _ _ _ _ z => (hx x e A' z).elim⟩⟩
theorem hds_of : ∀ {hds : List ExceptHandler} {l : List HdD}, HdsD X errs sub hds l → ∃ l' : List HdC, HdsX X hds l' ∧
    ∀ (A0 : AHp) (H0 : Hp) (D' : EndsA) (D : Ends) (Wo : WX), EndOk X A0 H0 D' D → (∀ x cls d e A σ H, RepX X.K X.mg H A x cls d → RepE X.K H A e σ → RH X.K A H → Step A0 H0 A H → D'.ex x e A → Wo cls d σ H) →
      ∀ n f v cls d e A σ H, n ∈ errs → RepX X.K X.mg H A (.exc n f v) cls d → RepE X.K H A e σ → RH X.K A H → Step A0 H0 A H → tryH sub n f v D' e A l → wH X.K Wo D l' cls d σ H
  | _, _, .nil => ⟨[], .nil, fun A0 H0 D' D Wo P w n f v cls d e A σ H hn rx re g s q => w _ _ _ _ _ _ _ rx re g s q⟩
  | _, _, .plain (x := x) (c := c) (ts := ts) hc hsu r => by
    obtain ⟨l', h1, h2⟩ := hds_of r
    refine ⟨⟨c, none, tsOf X errs ts⟩ :: l', .plain hc.1 (su_of hsu) h1, fun A0 H0 D' D Wo P w n f v cls d e A σ H hn rx re g s q => ?_⟩
    obtain ⟨n', f', v', C, dd, h5, hm, hcl, hd, rv⟩ := id rx
    cases h5
    subst hcl hd
    refine ⟨sub n x, hc.2 n hn C hm, fun hb a _ => ?_, fun hb => ?_⟩
    · unfold tryH at q
      rw [hb] at q
      have P' := P.trans s
      exact ⟨n, C, dd, e, A, _, hn, hm, rfl, rfl, re, g, q a dd, fun _ _ _ z => z, P'.nx, P'.rt, P'.bk, P'.ct⟩
    · unfold tryH at q
      rw [hb] at q
      exact h2 A0 H0 D' D Wo P w n f v _ _ e A σ H hn rx re g s q
  | _, _, .named (x := x) (c := c) (ts := ts) (i := i) hc hi hl hsu r => by
    obtain ⟨l', h1, h2⟩ := hds_of r
    refine ⟨⟨c, some i, tsOf X errs ts⟩ :: l', .named hc.1 hi hl (su_of hsu) h1, fun A0 H0 D' D Wo P w n f v cls d e A σ H hn rx re g s q => ?_⟩
    obtain ⟨n', f', v', C, dd, h5, hm, hcl, hd, rv⟩ := id rx
    cases h5
    subst hcl hd
    refine ⟨sub n x, hc.2 n hn C hm, fun hb a _ => ?_, fun hb => ?_⟩
    · unfold tryH at q
      rw [hb] at q
      have P' := P.trans s
      exact ⟨n, C, dd, _, A, _, hn, hm, rfl, rfl, RepE.set (x := some (.cgt a dd f v)) (y := some (.ref a)) (rv a) i re, g, q a dd, fun _ _ _ z => z, fun e2 A2 σ2 H2 re2 => P'.nx _ A2 _ H2 (RepE.set (x := none) (y := none) trivial i re2), P'.rt,
        fun e2 A2 σ2 H2 re2 => P'.bk _ A2 _ H2 (RepE.set (x := none) (y := none) trivial i re2), fun e2 A2 σ2 H2 re2 => P'.ct _ A2 _ H2 (RepE.set (x := none) (y := none) trivial i re2)⟩
    · unfold tryH at q
      rw [hb] at q
      exact h2 A0 H0 D' D Wo P w n f v _ _ e A σ H hn rx re g s q
theorem ds_try {body : List Stmt} {hd : ExceptHandler} {hds : List ExceptHandler} {l : List HdD} {pos : Pos} {tb : TSa} (hs : X.stack = X.env :: X.outer) (hf : X.env.frame = some X.env.locals) (hN : X.N.Nodup)
    (hb : ∀ (pn : List (Addr × Obj)) (xe : Value → Shared → Prop), PassesOwn (model X.prog X.w) X.A X.env xe → DSs (X.tr pn xe) body tb) (hh : HdsD X errs sub (hd :: hds) l) : DS X (.Try body (hd :: hds) [] [] pos) (sTry errs sub tb l) := by
  obtain ⟨l', h1, h2⟩ := hds_of hh
  refine ps_weak (ps_tryX (tb := fun W D σ H => ∃ env A D', RepE X.K H A env σ ∧ RH X.K A H ∧ tb D' env A ∧ (∀ e A' σ' H', RepE X.K H' A' e σ' → RH X.K A' H' → Step A H A' H' → D'.nx e A' → D.nx σ' H') ∧
      (∀ v A' u H', RepV X.K H' A' v u → RH X.K A' H' → Step A H A' H' → D'.rt v A' → D.rt u H') ∧ (∀ e A' σ' H', RepE X.K H' A' e σ' → RH X.K A' H' → Step A H A' H' → D'.bk e A' → D.bk σ' H') ∧ (∀ e A' σ' H', RepE X.K H' A' e σ' → RH X.K A' H' → Step A H A' H' → D'.ct e A' → D.ct σ' H') ∧
      (∀ x cls d e A' σ' H', RepX X.K X.mg H' A' x cls d → RepE X.K H' A' e σ' → RH X.K A' H' → Step A H A' H' → D'.ex x e A' → W cls d σ' H')) hs hf hN (takes_WOf X) (fun W pn xe tk own => ?_) h1) fun D σ H ⟨env, A, D', re, g, q, P⟩ => ?_
  · exact pss_weak (hb pn xe own) fun D σ H ⟨env, A, D', re, g, q, p1, p2, p3, p4, p5⟩ => ⟨env, A, D', re, g, q, p1, p2, p3, p4, fun x cls d e A' σ' H' rx re' g' s' q' => WOf.of tk (p5 x cls d e A' σ' H' rx re' g' s' q')⟩
  · refine ⟨env, A, _, re, g, q, P.nx, P.rt, P.bk, P.ct, fun x cls d e A' σ' H' rx re' g' s' q' => ?_⟩
    obtain ⟨n, f, v, C, dd, rfl, hm, hcl, hd', rv⟩ := id rx
    exact h2 A H D' D (WOf X) P P.ex n f v cls d e A' σ' H' q'.1 rx re' g' s' q'.2
end
end D

set_option Elab.async false
set_option linter.all false
set_option maxRecDepth 100000
/-! D17: repr of data; the __init__ of an exception class. -/
namespace D
open PySem PySem.Spec L2

mutual
theorem noDict : ∀ {a : AV} {d : PyData}, dataN a = some d → d.hasDict = false
  | .non, _, h => by cases h; simp only [PyData.hasDict]
  | .bl _, _, h => by cases h; simp only [PyData.hasDict]
  | .int _, _, h => by cases h; simp only [PyData.hasDict]
  | .str _, _, h => by cases h; simp only [PyData.hasDict]
  | .tup xs, _, h => by
    obtain ⟨ds, h1, rfl⟩ := Option.map_eq_some_iff.mp h
    simp only [PyData.hasDict]; exact noDicts h1
  | .fl xs, _, h => by
    obtain ⟨ds, h1, rfl⟩ := Option.map_eq_some_iff.mp h
    simp only [PyData.hasDict]; exact noDicts h1
  | .kl xs, _, h => by
    obtain ⟨ds, h1, rfl⟩ := Option.map_eq_some_iff.mp h
    simp only [PyData.hasDict]; exact noDicts h1
  | .ref _, _, h => by cases h
  | .ty _, _, h => by cases h
  | .exc _ _ _, _, h => by cases h
  | .cgt _ _ _ _, _, h => by cases h
theorem noDicts : ∀ {as : List AV} {ds : List PyData}, dataNs as = some ds → PyData.hasDictAll ds = false
  | [], _, h => by cases h; simp only [PyData.hasDictAll]
  | x :: xs, _, h => by
    obtain ⟨d, h1, h2⟩ := Option.bind_eq_some_iff.mp h
    obtain ⟨ds, h3, rfl⟩ := Option.map_eq_some_iff.mp h2
    simp only [PyData.hasDictAll, noDict h1, noDicts h3, Bool.or_self]
end
theorem noDictA {A : AHp} {a : AV} {d : PyData} (h : dataA A a = some d) : d.hasDict = false := by
  cases a with
  | ref p =>
    unfold dataA at h
    cases e : A p with
    | none => simp only [e] at h; cases h
    | some o =>
      cases o with
      | dct _ => simp only [e] at h; cases h
      | lst ys =>
        simp only [e] at h
        obtain ⟨ds, h3, rfl⟩ := Option.map_eq_some_iff.mp h
        simp only [PyData.hasDict]; exact noDicts h3
  | _ => exact noDict (by simpa only [dataA] using h)

/-- it can be written out -/
def ShwOk (d : PyData) : Prop := d.showable = true ∧ d.shown.length ≤ sizeLine ∧ d.depth ≤ 60
@[irreducible] def vRepr : RCa := fun as A Q => ∃ x d, as = [x] ∧ dataA A x = some d ∧ ShwOk d ∧ Q (.str d.shown) A
theorem re_is {A : AHp} {x : AV} {d : PyData} {Q : AV → AHp → Prop} (h : dataA A x = some d) (s : ShwOk d) (q : Q (.str d.shown) A) : vRepr [x] A Q := by
  unfold vRepr
  exact ⟨x, d, rfl, h, s, q⟩
theorem w_repr {X : Cx} (hg : X.A.guards = some []) (hu : X.A.units + 64 < cLine) : CallR X (.builtin "repr") (lfC X.K vRepr) := by
  intro pins s σ H xs us Q I rs ⟨as, A, Q', ras, g, h, P⟩
  unfold vRepr at h
  obtain ⟨x, d, rfl, hd, ⟨s1, s2, s3⟩, q⟩ := h
  obtain ⟨v, rfl, rv⟩ := reps1 ras
  obtain ⟨u, rfl, ru⟩ : ∃ u, us = [u] ∧ RelV v u := by
    cases rs with | cons r t => cases t; exact ⟨_, rfl, r⟩
  have dp := dataA_ok rv g hd
  have nd := noDictA hd
  have fin : ∀ {h' : Heap} {t' : Nat} {t : Tok}, (∀ b o, s.heap.get? b = some o → h'.get? b = some o) → EP X pins σ Q (.str d.shown t) { s with heap := h', toks := t' } := fun k => ⟨.str d.shown, H, I.kept k, ⟨_, rfl⟩, P _ _ _ _ (.str _) g .refl q⟩
  obtain ⟨bs, r⟩ := Dp.reads I d v u dp ru
  cases r with
  | none => exact PySem.P.repr_of_none (by have := fin (h' := s.heap) (t' := s.toks + 1) (t := s.toks) (fun _ _ e => e); simpa only [PyData.shown] using this)
  | bool b => exact PySem.P.repr_of_bool (by have := fin (h' := s.heap) (t' := s.toks + 1) (t := s.toks) (fun _ _ e => e); simpa only [PyData.shown] using this)
  | int i t => exact PySem.P.repr_of_int (by simpa [PyData.showable] using s1) (by have := fin (h' := s.heap) (t' := s.toks + 1) (t := s.toks) (fun _ _ e => e); simpa only [PyData.shown] using this)
  | str y t => exact PySem.P.repr_of_str (by have := fin (h' := s.heap) (t' := s.toks + 1) (t := s.toks) (fun _ _ e => e); simpa only [PyData.shown] using this) (by simpa only [PyData.shown] using s2)
  | list h1 h2 h3 h4 => exact PySem.repr_of_reads' (.list h1 h2 h3 h4) s1 (fun z => by rw [nd] at z; cases z) hg (by omega) (fun _ _ e => e) (fun h' t tk k => fin k) s2
  | tuple h1 h2 h3 h4 => exact PySem.repr_of_reads' (.tuple h1 h2 h3 h4) s1 (fun z => by rw [nd] at z; cases z) hg (by omega) (fun _ _ e => e) (fun h' t tk k => fin k) s2
  | dict h1 h2 h3 h4 h5 => simp only [PyData.hasDict] at nd; cases nd

/-! ### C.__init__(self), of a class of the program over ValueError -/
section
variable {X : Cx} {x : Str} {R : Addr} {e : Expr} {es : List Expr} {ta : TA} {p1 p2 pos : Pos}
theorem pe_oin {pl : Sem Bool} (hg : Gl X x) (hm : X.mg x = some (.ref R)) (hs : PySem.W.specialIn X.K (.ref R) "__getattribute__" = some (some (.builtin "type.__getattribute__"))) (hr : PySem.W.readsIn X.K R (.type "type") = true)
    (hv : PySem.W.findCls X.K (.ref R) (.type "type") "__init__" = some (.val (.builtin "ValueError.__init__"))) (ha : PA X (e :: es) ta)
    (hc : eval (.Call (.Attribute (.Name x p1) "__init__" p2) (e :: es) [] pos) X.env = (do
      let ov ← eval (.Name x p1) X.env
      standAt p2.atName
      let (f, first) ← holding [ov] (getMethod ov "__init__" pl)
      callWith pos f first (backTo pos (starEach (e :: es) X.env)) (backToKw pos (keywordEach [] X.env))) := by rfl)
    (hdb : (x == ("__debug__" : Str)) = false := by decide) (he : starEach (e :: es) X.env = (false, eval e X.env) :: starEach es X.env := by rfl) (hpl : (backTo pos (starEach es X.env)).any (·.1) = false := by rfl) :
    PE X (.Call (.Attribute (.Name x p1) "__init__" p2) (e :: es) [] pos) (tVeI X.K ta) := by
  refine ⟨fun pins s σ H Q I h => PySem.W.methodCall_KW (ld_glob I hg hm ?_ hdb) hc⟩
  refine PySem.W.method_cls I.kIn hs (PySem.W.cls_value I.kIn hr hv (by decide +kernel) ?_)
  refine PyProof.Rows.callWith_method1 (thn (ha.run pos pins _ σ H _ (I.tok _) h) fun us s1 ⟨vs, H1, I1, r1, a, C, ws, ev, hl, T, ea, q⟩ => ?_) he hpl
  subst ev
  cases r1 with
  | @cons _ u0 _ ur ra rest =>
    obtain rfl : u0 = Value.ref a := ra
    exact oinit_ok T I1 ea (by rw [← Paired.length rest, sizeLine_eq]; omega) fun s' J => ⟨.non, H1, J, rfl, q⟩
end
end D

set_option Elab.async false
set_option linter.all false
set_option maxRecDepth 100000
/-! D18: the program's error classes, as facts of the written part. -/
namespace D
open PySem PySem.Spec L2

/-- which of the program's classes a clause catches -/
def subE (n x : Str) : Bool := n == x || (x == "RateError" && n != "TooMany")
theorem room2 {k : Nat} {A : Around} (hr : RoomG (k + 2) A) : Room 2 A := hr.toRoom.mono (by omega)
theorem w64 {k : Nat} {A : Around} (hr : RoomG k A) : A.units + 64 < cLine := hr.toRoom.units
/-- the fields of exceptions can be read -/
def ErrFld (K : PySem.W.Frag) (mg : Str → Option Value) (errs flds : List Str) : Prop := ∀ {n : Str} {C : Addr}, n ∈ errs → mg n = some (.ref C) → XfC K C ∧ ∀ f ∈ flds, PySem.W.findIn K (.ref C) f = some none
/-- what a clause's class catches -/
structure ErrCls (K : PySem.W.Frag) (mg : Str → Option Value) (errs : List Str) (x : Str) (c : Value) : Prop where
  nm : mg x = some c ∨ (mg x = none ∧ bootBuiltins x = some c ∧ x ≠ "__name__")
  tst : ∀ n ∈ errs, ∀ C, mg n = some (.ref C) → PySem.W.exmOne K (.ref C) c = some (subE n x)
theorem ErrCls.at {X : Cx} {errs : List Str} {x : Str} {c : Value} (h : ErrCls X.K X.mg errs x c) (hg : Gl X x) (hd : (x == ("__debug__" : Str)) = false) : ClsD X errs subE x c := ⟨⟨hg, hd, h.nm⟩, h.tst⟩
theorem exm_of {K : PySem.W.Frag} {C D : Addr} {b : Bool} (h1 : PySem.W.subIn K (.ref D) (.type "BaseException") = some true) (h2 : PySem.W.isClsIn K D = true) (h3 : PySem.W.typeIn K (.ref D) = some (.type "type")) (h4 : PySem.W.subIn K (.ref C) (.ref D) = some b) :
    PySem.W.exmOne K (.ref C) (.ref D) = some b := by
  have e2 : ((PySem.W.clsIn K D).isSome && PySem.W.typeIn K (.ref D) == some (.type "type")) = true := by
    rw [show (PySem.W.clsIn K D).isSome = true from h2, h3]; rfl
  unfold PySem.W.exmOne
  rw [if_pos (by rw [h1]; rfl)]
  show (if ((PySem.W.clsIn K D).isSome && PySem.W.typeIn K (.ref D) == some (.type "type")) = true then PySem.W.subIn K (.ref C) (.ref D) else none) = some b
  rw [if_pos e2]
  exact h4
/-- the base class of the errors: its __init__ is ValueError's -/
structure BaseAt (K : PySem.W.Frag) (mg : Str → Option Value) (x : Str) : Prop where
  ex : ∃ R, mg x = some (.ref R) ∧ PySem.W.specialIn K (.ref R) "__getattribute__" = some (some (.builtin "type.__getattribute__")) ∧ PySem.W.readsIn K R (.type "type") = true ∧
    PySem.W.findCls K (.ref R) (.type "type") "__init__" = some (.val (.builtin "ValueError.__init__"))
/-- the body of a class -/
def clsBody : Stmt → List Stmt
  | .ClassDef (body := b) .. => b
  | _ => []
/-- .. and what an __init__ leaves -/
theorem ini_end {K : PySem.W.Frag} {C a : Addr} {v : V} {f : Str} {H : Hp} {Q : VK} (T : OexC K C) (hno : PySem.W.findIn K (.ref C) f = some none) (ha : H a = some (exo a C none))
    (q : ∀ dx, H dx = none → dx ≠ a → Q .non (upd (upd H dx (exd dx [(f, v)])) a (exo a C (some dx)))) {D : Ends} {σ : L2.St} (h0 : σ[0]? = some (some (.ref a))) (h1 : σ[1]? = some (some v)) (hD : ∀ H', Q .non H' → D.nx σ H') :
    (fun D σ H => tVeI K (tCons (tVar 0) tNil) σ H fun _ H1 => tOst K f (tVar 0) (tVar 1) D σ H1 : TS) D σ H :=
  ⟨_, h0, a, C, [], rfl, by decide, T, ha, v, h1, _, h0, a, C, rfl, T, hno, .inl ⟨ha, fun dx hd hne => hD _ (q dx hd hne)⟩⟩
end D

set_option Elab.async false
set_option linter.all false
set_option maxRecDepth 100000
/-! D19: the end of a law whose defs write out data or raise. -/
namespace D
open PySem PySem.Spec PyProof.Rows L2
section
variable {P : Program} {w : World} {K : PySem.W.Frag} {mg mb : Str → Option Value} {k : Nat} {fa a : Addr} {fd : FuncData} {x : Str} {sp : Sp} {s₁ : Shared} {vs : List Value} {ns : List Int}
/-- what stands at the law's entry -/
structure AtTop (K : PySem.W.Frag) (mg mb : Str → Option Value) (a : Addr) (vs : List Value) (ns : List Int) (s₁ : Shared) : Prop where
  kin : K.In s₁.heap
  glob : s₁.heap.Ns mainGlobals mg
  blt : s₁.heap.Ns builtinsNs mb
  bb : ∀ y : Str, y ≠ "__name__" → mb y = bootBuiltins y
  lim : s₁.heap.NoLimit
  gens : s₁.gens = #[]
  scr : s₁.heap.get? a = some { cls := .type "list", data := .seq vs.toArray }
  its : IntsAre vs ns
  len : ns.length ≤ sizeLine
/-- from a heap in which nothing but the script is tracked -/
theorem top_run (T : AtTop K mg mb a vs ns s₁) (hr : RoomG k callerA) (F : ∀ base : Heap, K.In base → base.Ns mainGlobals mg → FnG P w K mg base k fa fd [x] sp) (hbind : ∀ (s : Shared) (u : Value), BindsTo s fd ⟨[u], []⟩ [(x, u)])
    (hsp : ∀ H : Hp, Only H → SqL K H a (ns.map V.int) → sp [.ref a] H (fun v _ => v = .bl true) fun _ _ _ => False)
    {H : Hp} (hO : Only H) (hS : SqL K H a (ns.map V.int)) (hok : HOk P w H s₁.heap) (hA : ∀ b, H b ≠ none → b = a) (hK : H a ≠ none → K.lookup a = none) :
    codeAny (model P w) callerA (.call (.ref fa) ⟨[.ref a], []⟩) (fun r s' => r = .ok (.ret (.bool true)) ∧ OldK s₁.heap s'.heap ∧ s'.os = s₁.os ∧ AllBare s'.gens) s₁ := by
  have only : ∀ {b : Addr} {u : HO}, H b = some u → b = a := fun {b u} q => hA b (by rw [q]; simp)
  have plainNs : ∀ {b : Addr} {m : Str → Option Value}, s₁.heap.Ns b m → (hidT s₁.heap H).Ns b m := fun {b m} ⟨o, es, ep, e, d, r⟩ => by
    refine ⟨o, es, ep, hidT_get e ?_, d, r⟩
    cases q : H b with
    | none => rfl
    | some u =>
      have z := only q
      subst z
      rw [T.scr] at e; cases e
      have d' : Data.seq vs.toArray _ = Data.dict es ep := d
      cases d'
  have kb : K.In (hidT s₁.heap H) := fun b o e => hidT_get (T.kin b o e) (by
    cases q : H b with
    | none => rfl
    | some u =>
      have z := only q
      subst z
      rw [hK (by rw [q]; simp)] at e; cases e)
  obtain ⟨mc, l1, l2⟩ := T.lim
  have e0 : Env0 P w K mg (hidT s₁.heap H) callerA [] s₁ H :=
    ⟨rfl, ⟨kb, plainNs T.glob, ⟨mb, plainNs T.blt, T.bb⟩, ⟨mc, plainNs l1, l2⟩⟩, fun b o e => of_hidT e, Nat.le_of_eq (hidT_size _ _), trivial, (fun b hb => absurd (show b ∈ ([] : List Addr) from hb) (by simp)), hok, .of_eq T.gens⟩
  refine codeAny_mono ((F _ kb (plainNs T.glob)).rn callerA [] s₁ H ⟨[.ref a], []⟩ [.ref a] [.ref a] _ _ hr e0 (hbind s₁ (.ref a)) (.cons rfl .nil) (hsp H hO hS)) fun r s' h => ?_
  cases r with
  | error e =>
    obtain ⟨_, _, _, _, _, _, _, _, _, _, _, _, z⟩ := (show L2.CX P w [] H s₁ (fun _ _ _ => False) e s' from h)
    exact z.elim
  | ok fl =>
    cases fl with
    | ret u =>
      obtain ⟨v, H', os, bare, un, hok', r', q⟩ := h
      obtain rfl : v = V.bl true := q
      obtain rfl : u = Value.bool true := r'
      refine ⟨rfl, OldK.of_keep fun b o e => ?_, os, bare⟩
      cases q : H b with
      | none => exact un.keep b o e q (by intro z; exact absurd (show b ∈ ([] : List Addr) from z) (by simp)) (by simp)
      | some u =>
        rcases hO b with z | ⟨ob, xs, z⟩
        · rw [q] at z; cases z
        · obtain ⟨e1, _⟩ := hok b _ z
          obtain ⟨e2, _⟩ := hok' b _ (un.frzs b ob _ z)
          rw [e] at e1; cases e1
          exact e2
    | _ => exact False.elim h
theorem top_call (T : AtTop K mg mb a vs ns s₁) (hr : RoomG k callerA) (F : ∀ base : Heap, K.In base → base.Ns mainGlobals mg → FnG P w K mg base k fa fd [x] sp) (hbind : ∀ (s : Shared) (u : Value), BindsTo s fd ⟨[u], []⟩ [(x, u)])
    (hsp : ∀ H : Hp, Only H → SqL K H a (ns.map V.int) → sp [.ref a] H (fun v _ => v = .bl true) fun _ _ _ => False) :
    codeAny (model P w) callerA (.call (.ref fa) ⟨[.ref a], []⟩) (fun r s' => r = .ok (.ret (.bool true)) ∧ OldK s₁.heap s'.heap ∧ s'.os = s₁.os ∧ AllBare s'.gens) s₁ := by
  have rv := vals_ints T.its
  cases hk : K.lookup a with
  | some o =>
    have e := T.kin a o hk
    rw [T.scr] at e
    cases e
    exact top_run T hr F hbind hsp (H := fun _ => none) (fun _ => .inl rfl) (.inr ⟨_, vs.toArray, _, hk, rfl, rfl, rfl, by rw [List.size_toArray, T.its.length]; exact T.len, by simpa using rv⟩) (fun b u z => nomatch z) (fun b z => absurd rfl z) fun z => absurd rfl z
  | none =>
    let u0 : HO := .frz { cls := .type "list", data := .seq vs.toArray } (.lst (ns.map V.int))
    have at_a : (fun b => if b = a then some u0 else none : Hp) a = some u0 := if_pos rfl
    have off : ∀ {b : Addr}, b ≠ a → (fun b => if b = a then some u0 else none : Hp) b = none := fun h => if_neg h
    refine top_run T hr F hbind hsp (H := fun b => if b = a then some u0 else none) (fun b => ?_) (.inl (.inr ⟨_, at_a⟩)) (fun b u z => ?_) (fun b z => ?_) fun _ => hk
    · by_cases hb : b = a
      · subst hb; exact .inr ⟨_, _, at_a⟩
      · exact .inl (off hb)
    · by_cases hb : b = a
      · subst hb
        have z' := at_a.symm.trans z
        cases z'
        exact ⟨T.scr, by rw [List.length_map]; exact T.len, vs, _, rv, T.scr⟩
      · have z' := (off hb).symm.trans z
        cases z'
    · exact Classical.byContradiction fun hb => z (off hb)
end
/-- the goal that the head leaves, from the law's promise -/
theorem top_walk {l : PySem.W.OpenLaw} {n k : Nat} {q : Program} {loose : List Str} {XP : (Str → Option Value) → Heap → Prop} {YP : World → Heap → Prop} {d : DefRec} {K : Params → PySem.W.Frag} {sp : World → Sp} {x : Str}
    (hn : l.most = some n) (hn2 : n ≤ sizeLine) (hdf : d.params.defaults = []) (hr : RoomG k callerA) (hY : ∀ (w : World) (h : Heap), YP w h → (K w.params).In h)
    (F : ∀ (w : World) (mg : Str → Option Value) (fa : Addr) (h : Heap), (K w.params).In h → h.Ns mainGlobals mg → mg d.name = some (.ref fa) →
      ∃ fd : FuncData, (∀ (s : Shared) (v : Value), BindsTo s fd ⟨[v], []⟩ [(x, v)]) ∧ ∀ base : Heap, (K w.params).In base → base.Ns mainGlobals mg → FnG l.prog w (K w.params) mg base k fa fd [x] (sp w))
    (hsp : ∀ (w : World) (H : Hp) (a : Addr) (ns : List Int), ns.length ≤ n → Only H → SqL (K w.params) H a (ns.map V.int) → sp w [.ref a] H (fun v _ => v = .bl true) fun _ _ _ => False) :
    PySem.W.WalkO q loose XP YP l.row.toRowW d [] (fun f vs => PySem.call f vs) := by
  refine Att.attach_call hn hdf fun w s₀ s₁ mg mb fa o pm cd doc a vs ns G Y ho hd hcd hmg hobj hints hlen hg => ?_
  obtain ⟨fd, hb, hF⟩ := F w mg fa _ (hY w _ Y) G.T.g hmg
  exact top_call ⟨hY w _ Y, G.T.g, G.T.b, G.T.builtins, G.T.nolimit, hg, hobj, hints, Nat.le_trans hlen hn2⟩ hr hF hb fun H hO hS => hsp w H a ns hlen hO hS
end D

set_option Elab.async false
set_option linter.all false
set_option maxRecDepth 100000
/-! D20: what can be written out, by bounds. -/
namespace D
open PySem PySem.Spec L2
def SwA (k w : Nat) (x : AV) : Prop := ∃ d, dataN x = some d ∧ d.showable = true ∧ d.leavesShort 13 = true ∧ d.weight ≤ w ∧ d.depth ≤ k
def SwAs (k w : Nat) (xs : List AV) : Prop := ∃ ds, dataNs xs = some ds ∧ PyData.showableAll ds = true ∧ PyData.leavesShortAll 13 ds = true ∧ PyData.weightAll ds ≤ w ∧ PyData.depthAll ds ≤ k
theorem SwA.mono {k j w v : Nat} {x : AV} (h : SwA k w x) (hj : k ≤ j) (hw : w ≤ v) : SwA j v x := by obtain ⟨d, a, b, c, e, f⟩ := h; exact ⟨d, a, b, c, by omega, by omega⟩
theorem SwAs.mono {k j w v : Nat} {x : List AV} (h : SwAs k w x) (hj : k ≤ j) (hw : w ≤ v) : SwAs j v x := by obtain ⟨d, a, b, c, e, f⟩ := h; exact ⟨d, a, b, c, by omega, by omega⟩
theorem SwA.non : SwA 0 0 .non := ⟨.none, rfl, by simp only [PyData.showable], by simp only [PyData.leavesShort], by simp only [PyData.weight]; omega, by simp only [PyData.depth]; omega⟩
theorem SwA.bl (b : Bool) : SwA 0 0 (.bl b) := ⟨.bool b, rfl, by simp only [PyData.showable], by simp only [PyData.leavesShort], by simp only [PyData.weight]; omega, by simp only [PyData.depth]; omega⟩
theorem log2_lt {n k : Nat} (h : n < 2 ^ k) (hk : 0 < k) : n.log2 < k := by
  by_cases e : n = 0
  · subst e; simpa using hk
  · exact (Nat.log2_lt e).mpr h
theorem SwA.int {i : Int} (h : i.natAbs < 2 ^ 39) : SwA 0 39 (.int i) := by
  have hl : i.natAbs.log2 < 39 := log2_lt h (by decide)
  refine ⟨.int i, rfl, by simp only [PyData.showable]; exact decide_eq_true (by omega), ?_, ?_, by simp only [PyData.depth]; omega⟩
  · simp only [PyData.leavesShort]
    refine decide_eq_true ?_
    have := PySem.int_text_length_le10 (a := i) (k := 12) (by decide) (Nat.lt_of_lt_of_le h (by decide))
    show (Str.ofString (toString i)).length ≤ 13
    rw [ofString_length]
    omega
  · simp only [PyData.weight]
    split <;> omega
theorem SwA.str {x : Str} {n : Nat} (h : x.cps.size ≤ n) (hc : ∀ c ∈ x.cps.toList, c < 16 ^ 8) : SwA 0 n (.str x) := by
  refine ⟨.str x, rfl, by simp only [PyData.showable], ?_, by simp only [PyData.weight]; exact h, by simp only [PyData.depth]; omega⟩
  simp only [PyData.leavesShort]
  exact List.all_eq_true.mpr fun c m => decide_eq_true (hc c m)
theorem SwAs.nil {k w : Nat} : SwAs k w [] := ⟨[], rfl, by simp only [PyData.showableAll], by simp only [PyData.leavesShortAll], by simp only [PyData.weightAll]; omega, by simp only [PyData.depthAll]; omega⟩
theorem SwAs.cons {k w v : Nat} {x : AV} {xs : List AV} (h : SwA k w x) (t : SwAs k v xs) : SwAs k (w + 1 + v) (x :: xs) := by
  obtain ⟨d, a, b, c, e, f⟩ := h
  obtain ⟨ds, a2, b2, c2, e2, f2⟩ := t
  exact ⟨d :: ds, by rw [dataNs, a, a2]; rfl, by simp only [PyData.showableAll, b, b2]; rfl, by simp only [PyData.leavesShortAll, c, c2]; rfl, by simp only [PyData.weightAll]; omega, by simp only [PyData.depthAll]; omega⟩
theorem SwAs.all {k w : Nat} : ∀ {xs : List AV}, (∀ x ∈ xs, SwA k w x) → SwAs k (xs.length * (w + 1)) xs
  | [], _ => SwAs.nil.mono (Nat.le_refl _) (Nat.zero_le _)
  | x :: xs, h => (SwAs.cons (h x (List.mem_cons_self ..)) (SwAs.all fun y m => h y (List.mem_cons_of_mem _ m))).mono (Nat.le_refl _) (by rw [List.length_cons, Nat.succ_mul]; omega)
theorem SwA.tup {k w : Nat} {xs : List AV} (h : SwAs k w xs) : SwA (k + 1) w (.tup xs) := by
  obtain ⟨ds, a, b, c, e, f⟩ := h
  exact ⟨.tuple ds, by rw [dataN, a]; rfl, by simpa only [PyData.showable] using b, by simpa only [PyData.leavesShort] using c, by simpa only [PyData.weight] using e, by simp only [PyData.depth]; omega⟩
theorem SwA.fl {k w : Nat} {xs : List AV} (h : SwAs k w xs) : SwA (k + 1) w (.fl xs) := by
  obtain ⟨ds, a, b, c, e, f⟩ := h
  exact ⟨.list ds, by rw [dataN, a]; rfl, by simpa only [PyData.showable] using b, by simpa only [PyData.leavesShort] using c, by simpa only [PyData.weight] using e, by simp only [PyData.depth]; omega⟩
theorem SwA.ints {ns : List Int} {n : Nat} (hl : ns.length ≤ n) (h : ∀ i ∈ ns, i.natAbs < 2 ^ 39) : SwA 1 (n * 40) (.tup (ns.map .int)) :=
  SwA.tup ((SwAs.all (k := 0) (w := 39) fun x m => by
    obtain ⟨i, hi, rfl⟩ := List.mem_map.mp m
    exact SwA.int (h i hi)).mono (Nat.le_refl _) (by rw [List.length_map]; exact Nat.mul_le_mul_right 40 hl))
def reprA (x : AV) : Str := ((dataN x).map PyData.shown).getD ⟨#[]⟩
theorem re_sw {A : AHp} {x : AV} {w : Nat} {Q : AV → AHp → Prop} (h : SwA 60 w x) (hw : w ≤ 2 ^ 20) (q : Q (.str (reprA x)) A) : vRepr [x] A Q := by
  obtain ⟨d, a, b, c, e, f⟩ := h
  have ed : dataA A x = some d := by
    cases x with
    | ref p => cases a
    | _ => exact a
  refine re_is ed ⟨b, PyData.shown_fits (by decide) (by decide) c (by omega), f⟩ ?_
  unfold reprA at q
  rw [a] at q
  exact q
end D

set_option Elab.async false
set_option linter.all false
set_option maxRecDepth 100000
/-! D21: max of a tuple of ints. -/
namespace D
open PySem PySem.Spec L2
theorem reads_intsV {h : Heap} : ∀ {ns : List Int} {us : List Value}, Vals (ns.map V.int) us → ReadsAll h us (ns.map PyData.int) []
  | [], _, .nil => .nil
  | n :: r, _, .cons (b := u) ⟨t, e⟩ rs => by
    subst e
    exact ReadsAll.cons (as := []) (bs := []) (.int n t) (reads_intsV rs)
theorem alike_ints (ns : List Int) : PySem.W.AlikeAll (ns.map PyData.int) := ⟨fun x m y k => by
  obtain ⟨i, _, rfl⟩ := List.mem_map.mp m
  obtain ⟨j, _, rfl⟩ := List.mem_map.mp k
  rfl, fun x m => by
  obtain ⟨i, _, rfl⟩ := List.mem_map.mp m
  intro z; cases z⟩
theorem depth_ints (ns : List Int) : PyData.depthAll (ns.map PyData.int) = 0 := by
  induction ns with
  | nil => simp only [List.map_nil, PyData.depthAll]
  | cons n r ih => simp only [List.map_cons, PyData.depthAll, PyData.depth, ih]; rfl
@[irreducible] def vMaxT : RCa := fun as A Q => match as with
  | [.tup xs] => (match aInts xs with | some (n :: ns) => Q (.int (ns.foldl max n)) A | _ => False)
  | _ => False
theorem w_maxT {X : Cx} (hc : X.calm = true) (hu : X.A.units + 64 < cLine) : CallR X (.builtin "max") (lfC X.K vMaxT) := by
  intro pins s σ H vs us Q I rs ⟨as, A, Q', ras, g, q, P⟩
  unfold vMaxT at q
  split at q
  · rename_i xs
    split at q
    · rename_i n ns e
      obtain ⟨v, rfl, rv⟩ := reps1 ras
      cases rv with | tup f r2 =>
      have e2 := aInts_eq e
      subst e2
      have e3 := repVs_ints r2
      subst e3
      obtain ⟨its, rv, pl, hz⟩ := I.tuple f.sq
      rw [Vals.ref1 rs]
      refine PySem.W.max_tuple_data (I.ok.hd hc) (show s.heap.IsTuple _ its.toArray from pl) (x := .int n) (xs := ns.map .int) (as := []) (by have := reads_intsV (h := s.heap) rv; simpa using this) (alike_ints (n :: ns)) (by rw [show PyData.int n :: ns.map PyData.int = (n :: ns).map PyData.int from rfl, depth_ints]; omega) fun i v h' tk bs hi r hk => ?_
      rw [PySem.W.maxD_ints] at r
      cases r with
      | int _ t => exact ⟨.int _, H, I.kept hk, ⟨t, rfl⟩, P _ _ _ _ (.int _) g .refl q⟩
    · exact q.elim
  · exact q.elim
end D

set_option Elab.async false
set_option linter.all false
set_option maxRecDepth 100000
/-! D22: str of a text, pieces of texts, a sum of lists that may change, a def that calls itself. -/
namespace D
open PySem PySem.Spec L2
section
variable {X : Cx}
@[irreducible] def tStr2 : RCa := fun as A Q => (∃ i : Int, as = [.int i] ∧ i.natAbs.log2 < 1920 ∧ Q (.str (toString i)) A) ∨ ∃ s, as = [.str s] ∧ Q (.str s) A
theorem t_str2 : CallR X (.type "str") (lfC X.K tStr2) := by
  refine callR_weak (call_str_int.or SkE.call_str_str) fun vs H Q ⟨as, A, Q', rs, g, q, P⟩ => ?_
  unfold tStr2 at q
  rcases q with ⟨i, rfl, h, q⟩ | ⟨s, rfl, q⟩
  · obtain ⟨v, rfl, r1⟩ := reps1 rs
    cases r1
    exact .inl ⟨_, rfl, h, P _ _ _ _ (.str _) g .refl q⟩
  · obtain ⟨v, rfl, r1⟩ := reps1 rs
    cases r1
    exact .inr ⟨_, rfl, P _ _ _ _ (.str _) g .refl q⟩
@[irreducible] def slVS (x : AV) (lo hi : Option Int) (A : AHp) (Q : AV → AHp → Prop) : Prop := ∃ z, x = .str z ∧ z.length ≤ sizeLine ∧ Q (.str (cutS z lo hi)) A
theorem sv_str : SlR X (lfSl X.K slVS) := slR_weak sl_str fun x lo hi H Q ⟨a, A, Q', ra, g, r, P⟩ => by
  unfold slVS at r
  obtain ⟨z, rfl, hz, q⟩ := r
  cases ra
  exact ⟨z, rfl, hz, P _ _ _ _ (.str _) g .refl q⟩
/-- list + list, and what is made may change -/
def addM : RA2 := fun x y A Q => match madeLs A x with
  | some a => (match madeLs A y with | some b => a.length + b.length ≤ sizeLine ∧ ∀ p, A p = none → Q (.ref p) (updA A p (.lst (a ++ b))) | none => False)
  | none => False
theorem o_addM : OpR X (binaryOp .Add) (lf2 X.K addM) := by
  intro pins s σ H x y v u Q I rx ry ⟨a, b, A, Q', ra, rb, g, r, P⟩
  unfold addM at r
  split at r
  · rename_i xs h1
    split at r
    · rename_i ys h2
      obtain ⟨p, vs, rfl, hp, r1⟩ := madeLs_ok ra g h1
      obtain ⟨q, us, rfl, hq, r2⟩ := madeLs_ok rb g h2
      exact op_cat pins s σ H _ _ v u Q I rx ry ⟨p, q, vs, us, rfl, rfl, hp, hq, by rw [← r1.length, ← r2.length]; exact r.1, fun o ho => new_lst P g ho (r1.append r2) (r.2 o (g.noneA ho))⟩
    · exact r.elim
  · exact r.elim
end
section
variable {P : Program} {w : World} {K : PySem.W.Frag} {mg : Str → Option Value} {base : Heap}
/-- a promise that nobody may ask for -/
theorem has_none {x qual : Str} {st : Stmt} {f : Addr} {fd : FuncData} {ps : List Str} {k : Nat} {sp : Spa} (hf : mg x = some (.ref f)) (F : Fun K x qual st f fd) (hb : Binds K fd ps []) (h : ∀ as A Q, ¬ sp as A Q) : Has P w K mg base k x ps sp :=
  ⟨f, fd, hf, F.kp, hb, ⟨fun vs H Q E ⟨as, A, Q', rs, g, q, Ps⟩ => (h _ _ _ q).elim, fun A ot s H ar us vs Q E hr he hbi hv ⟨as, A', Q', rs, g, q, Ps⟩ => (h _ _ _ q).elim⟩, fun_dat F⟩
end
end D

set_option Elab.async false
set_option linter.all false
set_option maxRecDepth 100000
/-! lemmas for readings -/
namespace D
open PySem PySem.Spec L2

theorem dT {p : Prop} {d : Decidable p} {f : ¬p → Prop} {g : p → Prop} (h : p) (q : g h) : @Decidable.rec p (fun _ => Prop) f g d := by
  cases d with
  | isTrue _ => exact q
  | isFalse n => exact absurd h n
theorem dF {p : Prop} {d : Decidable p} {f : ¬p → Prop} {g : p → Prop} (h : ¬p) (q : f h) : @Decidable.rec p (fun _ => Prop) f g d := by
  cases d with
  | isTrue n => exact absurd n h
  | isFalse _ => exact q
/-! ### cuts, subscripts -/
theorem cut_to {xs : List AV} {k : Int} (h : 0 ≤ k) : cutA xs none (some k) = xs.take k.toNat := by
  unfold cutA
  rw [show HT.sIx xs.length 0 none = 0 from rfl, List.drop_zero]
  have e : HT.sIx xs.length xs.length (some k) = min k.toNat xs.length := by
    show (if k < 0 then _ else _) = _
    rw [if_neg (by omega)]
  rw [e, Nat.sub_zero]
  by_cases h2 : k.toNat ≤ xs.length
  · rw [Nat.min_eq_left h2]
  · rw [Nat.min_eq_right (by omega), List.take_length, List.take_of_length_le (by omega)]
theorem cut_from {xs : List AV} {k : Int} (h : 0 ≤ k) : cutA xs (some k) none = xs.drop k.toNat := by
  unfold cutA
  have e : HT.sIx xs.length 0 (some k) = min k.toNat xs.length := by
    show (if k < 0 then _ else _) = _
    rw [if_neg (by omega)]
  have e2 : HT.sIx xs.length xs.length none = xs.length := rfl
  rw [e, e2]
  by_cases h2 : k.toNat ≤ xs.length
  · rw [Nat.min_eq_left h2]
    exact List.take_of_length_le (by rw [List.length_drop]; omega)
  · rw [Nat.min_eq_right (by omega), List.drop_length, List.drop_eq_nil_of_le (by omega)]
    simp
theorem atI_nat {α : Type} {xs : List α} {k : Int} (h : 0 ≤ k) : atI xs k = xs[k.toNat]? := by
  unfold atI ixN
  rw [if_pos h]
  by_cases h2 : k < xs.length
  · rw [if_pos h2]; rfl
  · rw [if_neg h2]
    exact (List.getElem?_eq_none (by omega)).symm
theorem atI_of {α : Type} {xs : List α} {k : Int} {x : α} (h : 0 ≤ k) (e : xs[k.toNat]? = some x) : atI xs k = some x := by rw [atI_nat h, e]
theorem ixN_of {n : Nat} {k : Int} (h : 0 ≤ k) (h2 : k < n) : ixN n k = some k.toNat := by unfold ixN; rw [if_pos h, if_pos h2]
theorem gt_tup {A : AHp} {xs : List AV} {k : Int} {v : AV} (h : 0 ≤ k) (e : xs[k.toNat]? = some v) : gtR0 A (.tup xs) (.int k) = some v := atI_of h e
theorem gt_ls {A : AHp} {x : AV} {xs : List AV} {k : Int} {v : AV} (hx : lsOf A x = some xs) (h : 0 ≤ k) (e : xs[k.toNat]? = some v) : gtR0 A x (.int k) = some v := by
  cases x with
  | fl ys => cases hx; exact atI_of h e
  | kl ys => cases hx; exact atI_of h e
  | ref p =>
    show (match sqOf A (.ref p) with | some xs => atI xs k | none => (dcOf A (.ref p)).bind fun kvs => valA kvs (.inl k)) = _
    rw [show sqOf A (.ref p) = some xs from hx]; exact atI_of h e
  | _ => cases hx
theorem gt_dct {A : AHp} {p : Addr} {kvs : List (Key × AV)} {z : Str} {v : AV} (h : A p = some (.dct kvs)) (e : valA kvs (.inr z) = some v) : gtR0 A (.ref p) (.str z) = some v := by
  show (dcOf A (.ref p)).bind _ = _
  have : dcOf A (.ref p) = some kvs := by unfold dcOf; simp only [h]
  rw [this]; exact e
theorem gt_dcti {A : AHp} {p : Addr} {kvs : List (Key × AV)} {z : Int} {v : AV} (h : A p = some (.dct kvs)) (e : valA kvs (.inl z) = some v) : gtR0 A (.ref p) (.int z) = some v := by
  have h1 : dcOf A (.ref p) = some kvs := by unfold dcOf; simp only [h]
  have h2 : sqOf A (.ref p) = none := by show lsOf A (.ref p) = none; unfold lsOf; simp only [h]
  show (match sqOf A (.ref p) with | some xs => atI xs z | none => (dcOf A (.ref p)).bind _) = _
  rw [h2, h1]; exact e
theorem ixV_of {A : AHp} {x y v : AV} {Q : AV → AHp → Prop} (h : gtR0 A x y = some v) (q : Q v A) : ixV x y A Q := by unfold ixV; rw [h]; exact q
theorem ls_ref {A : AHp} {p : Addr} {xs : List AV} (h : A p = some (.lst xs)) : lsOf A (.ref p) = some xs := lsOf_ref h
theorem lenA_ls {A : AHp} {x : AV} {xs : List AV} (h : lsOf A x = some xs) : lenA A x = some xs.length := by
  cases x with
  | fl ys => cases h; rfl
  | kl ys => cases h; rfl
  | ref p => unfold lenA; have : sqOf A (.ref p) = some xs := h; simp only [this]
  | _ => cases h

/-! ### walks -/
section
variable {keep : AHp → Prop} {g : TGa} {tb : TSa} {D : EndsA} {tt : TTa} {te tk tv : TEa} {env : AEnv}
theorem rFor_inv (Inv : Nat → AEnv → AHp → Prop) {items : List AV} {e : AEnv} {A : AHp} (h0 : Inv 0 e A)
    (step : ∀ i x e A, items[i]? = some x → Inv i e A → ∀ N : AEnv → AHp → Prop, (∀ e2 A2, Inv (i + 1) e2 A2 → N e2 A2) → g x e A fun e1 A1 => tb { D with nx := fun e2 A2 => keep A2 ∧ N e2 A2, ct := fun e2 A2 => keep A2 ∧ N e2 A2, bk := D.nx } e1 A1)
    (fin : ∀ e A, Inv items.length e A → D.nx e A) : rFor keep g tb D items e A := by
  have go : ∀ (ys : List AV) (i : Nat) e A, items.drop i = ys → i ≤ items.length → Inv i e A → rFor keep g tb D ys e A := by
    intro ys
    induction ys with
    | nil => intro i e A hd hi hI; exact rFor_nil (fin e A (by
        have := congrArg List.length hd
        rw [List.length_drop] at this
        have e2 : i = items.length := by simp at this; omega
        rw [← e2]; exact hI))
    | cons y ys ih =>
      intro i e A hd hi hI
      have hl : i < items.length := by
        have := congrArg List.length hd
        rw [List.length_drop] at this
        simp at this; omega
      have hy : items[i]? = some y := by
        have := congrArg (fun l => l[0]?) hd
        simpa using this
      have hd2 : items.drop (i + 1) = ys := by
        rw [← List.drop_drop, hd]; rfl
      exact rFor_cons (step i y e A hy hI _ fun e2 A2 h2 => ih (i + 1) e2 A2 hd2 hl h2)
  exact go items 0 e A rfl (Nat.zero_le _) h0
theorem rLc_inv {Dd : Addr} {Q : List AV → AHp → Prop} (Inv : Nat → List AV → AHp → Prop) {items : List AV} {A : AHp} (h0 : Inv 0 [] A)
    (hD : ∀ i acc A, Inv i acc A → A Dd = some (.lst acc))
    (step : ∀ i x acc A, items[i]? = some x → Inv i acc A → ∀ (T : AV → AHp → Prop) (F : AHp → Prop),
      (∀ y A4, (A4 Dd = some (.lst acc) ∧ acc.length < sizeLine ∧ keep (updA A4 Dd (.lst (acc ++ [y]))) ∧ Inv (i + 1) (acc ++ [y]) (updA A4 Dd (.lst (acc ++ [y])))) → T y A4) → (∀ A3, (A3 Dd = some (.lst acc) ∧ keep A3 ∧ Inv (i + 1) acc A3) → F A3) →
      g x env A fun e2 A2 => tt e2 A2 fun b A3 => if b = true then te e2 A3 T else F A3)
    (fin : ∀ acc A, Inv items.length acc A → Q acc A) : rLc keep g tt te env Dd Q items [] A := by
  have go : ∀ (ys : List AV) (i : Nat) acc A, items.drop i = ys → i ≤ items.length → Inv i acc A → rLc keep g tt te env Dd Q ys acc A := by
    intro ys
    induction ys with
    | nil => intro i acc A hd hi hI; exact rLc_nil (hD _ _ _ hI) (fin acc A (by
        have := congrArg List.length hd
        rw [List.length_drop] at this
        have e2 : i = items.length := by simp at this; omega
        rw [← e2]; exact hI))
    | cons y ys ih =>
      intro i acc A hd hi hI
      have hl : i < items.length := by
        have := congrArg List.length hd
        rw [List.length_drop] at this
        simp at this; omega
      have hy : items[i]? = some y := by
        have := congrArg (fun l => l[0]?) hd
        simpa using this
      have hd2 : items.drop (i + 1) = ys := by
        rw [← List.drop_drop, hd]; rfl
      exact rLc_cons (step i y acc A hy hI _ _ (fun y A4 ⟨a, b, c, d⟩ => ⟨a, b, c, ih (i + 1) _ _ hd2 hl d⟩) (fun A3 ⟨a, b, c⟩ => ⟨a, b, ih (i + 1) _ _ hd2 hl c⟩))
  exact go items 0 [] A rfl (Nat.zero_le _) h0
/-- a comprehension that changes nothing -/
theorem lc_fm {α : Type} (f : α → AV) (h : α → Option AV) {ys : List α} {A : AHp} {Q : AV → AHp → Prop} (hlen : ys.length ≤ sizeLine) (hk : ∀ p o, A p = none → keep (updA A p o))
    (step : ∀ y ∈ ys, ∀ B : AHp, SubA A B → ∀ (T : AV → AHp → Prop) (F : AHp → Prop), (match h y with | some v => T v B | none => F B) → g (f y) env B fun e2 A2 => tt e2 A2 fun b A3 => if b = true then te e2 A3 T else F A3)
    (q : Q (.fl (ys.filterMap h)) A) : lcT keep g tt te env (ys.map f) A Q := by
  unfold lcT
  intro p hp
  refine ⟨hk p _ hp, rLc_inv (fun i acc B => acc = (ys.take i).filterMap h ∧ B = updA A p (.lst acc)) ⟨rfl, rfl⟩ (fun i acc B ⟨_, e⟩ => by rw [e]; exact updA_same) (fun i x acc B hx ⟨ea, eb⟩ T F hT hF => ?_) (fun acc B ⟨ea, eb⟩ => ?_)⟩
  · obtain ⟨y, hy, rfl⟩ : ∃ y, ys[i]? = some y ∧ f y = x := by
      rw [List.getElem?_map] at hx
      exact Option.map_eq_some_iff.mp hx
    have hi : i < ys.length := (List.getElem?_eq_some_iff.mp hy).1
    have al : acc.length ≤ i := by rw [ea]; exact Nat.le_trans (List.length_filterMap_le ..) (by rw [List.length_take]; omega)
    have et : ys.take (i + 1) = ys.take i ++ [y] := by rw [List.take_succ, hy]; rfl
    subst eb
    refine step y (List.mem_of_getElem? hy) _ (SubA.new hp) T F ?_
    cases hh : h y with
    | some v =>
      refine hT v _ ⟨updA_same, by omega, ?_, ?_, ?_⟩
      · rw [updA_upd]; exact hk p _ hp
      · rw [et, List.filterMap_append, ← ea]; simp [hh]
      · rw [updA_upd]
    | none =>
      refine hF _ ⟨updA_same, hk p _ hp, ?_, rfl⟩
      rw [et, List.filterMap_append, ← ea]; simp [hh]
  · subst eb
    show Q (.fl acc) _
    rw [delA_upd hp, ea, List.length_map, List.take_length]
    exact q
theorem lc_map {α : Type} (f h : α → AV) {ys : List α} {A : AHp} {Q : AV → AHp → Prop} (hlen : ys.length ≤ sizeLine) (hk : ∀ p o, A p = none → keep (updA A p o))
    (step : ∀ y ∈ ys, ∀ B : AHp, SubA A B → ∀ (T : AV → AHp → Prop) (F : AHp → Prop), T (h y) B → g (f y) env B fun e2 A2 => tt e2 A2 fun b A3 => if b = true then te e2 A3 T else F A3)
    (q : Q (.fl (ys.map h)) A) : lcT keep g tt te env (ys.map f) A Q :=
  lc_fm f (fun y => some (h y)) hlen hk step (by
    have e : ys.filterMap (fun y => some (h y)) = ys.map h := by simp [List.filterMap_eq_map']
    rw [e]; exact q)
theorem keep_free {A : AHp} : ∀ p o, A p = none → free (updA A p o) := fun _ _ _ => trivial
theorem keep_lst {A : AHp} {p : Addr} {xs : List AV} (h : A p = some (.lst xs)) : ∀ q o, A q = none → (fun B : AHp => B p = some (.lst xs)) (updA A q o) := fun q o hq => by
  have ne : p ≠ q := fun e => by subst e; rw [h] at hq; cases hq
  show updA A q o p = _
  rw [updA_ne ne]; exact h
end
theorem vLc_fl {A : AHp} {a : List AV} : True := trivial
end D

set_option Elab.async false
set_option linter.all false
set_option maxRecDepth 100000
namespace D
open PySem PySem.Spec L2
local macro_rules | `(tactic| walk_at "dx") => `(tactic| conv => whnf)
structure Task where
  nm : Str
  ds : List Int
structure Ln where
  o : Nat
  t : Nat
  gs : List Int
  ts : List Int
  st : Int
structure Gr where
  tasks : List Task
  lines : List Ln
def tInts (ns : List Int) : AV := .tup (ns.map .int)
def encT (t : Task) : AV := .tup [.str t.nm, .tup (t.ds.map .int)]
def nmAt (T : List Task) (i : Nat) : Str := ((T[i]?).map Task.nm).getD ⟨#[]⟩
def encL (T : List Task) (l : Ln) : AV := .tup [.str (nmAt T l.o), .str (nmAt T l.t), .tup (l.gs.map .int), .tup (l.ts.map .int), .int l.st]
def encG (G : Gr) : AV := .tup [.tup (G.tasks.map encT), .tup (G.lines.map (encL G.tasks))]
abbrev lettersS : Str := "abcdefghijklmnopqrstuvwxyz"
abbrev figuresS : Str := "0123456789"
structure NameOk (s : Str) : Prop where
  len : 1 ≤ s.length ∧ s.length ≤ 8
  fst : ∃ c, s.cps.toList[0]? = some c ∧ c ∈ lettersS.cps.toList
  all : ∀ c ∈ s.cps.toList, c ∈ (lettersS ++ figuresS).cps.toList
  nz : s ≠ "zz9"
structure TaskOk (t : Task) : Prop where
  nm : NameOk t.nm
  len : 1 ≤ t.ds.length ∧ t.ds.length ≤ 24
  all : ∀ d ∈ t.ds, (1 : Int) ≤ d ∧ d ≤ 99
structure LnOk (T : List Task) (l : Ln) : Prop where
  ot : ∃ a, T[l.o]? = some a ∧ l.gs.length = a.ds.length
  tt : ∃ a, T[l.t]? = some a ∧ l.ts.length = a.ds.length
  gs : ∀ d ∈ l.gs, (0 : Int) ≤ d ∧ d ≤ 9
  ts : ∀ d ∈ l.ts, (0 : Int) ≤ d ∧ d ≤ 9
  gp : 0 < l.gs.sum
  tp : 0 < l.ts.sum
  st : 0 ≤ l.st ∧ l.st ≤ 99999
structure GoodG (G : Gr) : Prop where
  len : 1 ≤ G.tasks.length ∧ G.tasks.length ≤ 24
  lin : G.lines.length ≤ 60
  ts : ∀ t ∈ G.tasks, TaskOk t
  nod : (G.tasks.map Task.nm).Nodup
  ls : ∀ l ∈ G.lines, LnOk G.tasks l
theorem all_true {l : List Bool} (h : ∀ b ∈ l, b = true) : (l.all fun b => b) = true := List.all_eq_true.mpr h
theorem bl_all {α : Type} {xs : List α} {f : α → Bool} {Q : AV → AHp → Prop} {A : AHp} (h : ∀ x ∈ xs, f x = true) (q : Q (.bl true) A) : vAll [.fl (xs.map fun x => .bl (f x))] A Q := by
  have e : (match aBls (xs.map fun x => AV.bl (f x)) with | some bs => Q (.bl (bs.all fun b => b)) A | none => False) := by
    rw [aBls_map]
    show Q (.bl ((xs.map f).all fun b => b)) A
    rw [all_true fun b m => by obtain ⟨x, hx, rfl⟩ := List.mem_map.mp m; exact h x hx]
    exact q
  unfold vAll
  exact e

def sp_is_whole : Spa := fun as A Q => ∃ i : Int, as = [.int i] ∧ Q (.bl true) A
def t_is_whole : TSa :=
  (sRet (vAnd (aCB vIsi (aCons (vVar 0) (aCons (aC (.ty "int")) aNil))) (vNot (aCB vIsi (aCons (vVar 0) (aCons (aC (.ty "bool")) aNil))))))
theorem rd_is_whole (as : List AV) (AH : AHp) (Q : AV → AHp → Prop) (h : sp_is_whole as AH Q) : t_is_whole { nx := fun _ A2 => Cv Q .non A2, rt := Cv Q } (startA ["thing"] as) AH := by
  obtain ⟨i, rfl, q⟩ := h
  exact Cv.of q
def sp_is_between : Spa := fun as A Q => ∃ i a b : Int, as = [.int i, .int a, .int b] ∧ Q (.bl (decide (a ≤ i) && decide (i ≤ b))) A
def t_is_between : TSa :=
  (sRet (vAnd (aCall sp_is_whole (aCons (vVar 0) aNil)) (aChain leR leR (vVar 1) (vVar 0) (vVar 2))))
theorem rd_is_between (as : List AV) (AH : AHp) (Q : AV → AHp → Prop) (h : sp_is_between as AH Q) : t_is_between { nx := fun _ A2 => Cv Q .non A2, rt := Cv Q } (startA ["thing", "least", "most"] as) AH := by
  obtain ⟨i, a, b, rfl, q⟩ := h
  refine ⟨i, rfl, ?_⟩
  show if true = true then _ else _
  rw [if_pos rfl]
  refine ⟨_, rfl, ?_⟩
  by_cases h1 : a ≤ i
  · rw [if_pos (decide_eq_true h1)]
    rw [decide_eq_true h1, Bool.true_and] at q
    exact Cv.of q
  · rw [if_neg (by simp [h1])]
    rw [decide_eq_false h1, Bool.false_and] at q
    exact Cv.of q
def sp_is_tuple_of : Spa := fun as A Q => ∃ (xs : List AV) (a b : Int), as = [.tup xs, .int a, .int b] ∧ a ≤ (xs.length : Nat) ∧ (xs.length : Nat) ≤ b ∧ Q (.bl true) A
def t_is_tuple_of : TSa :=
  (sRet (vAnd (aCB vIsi (aCons (vVar 0) (aCons (aC (.ty "tuple")) aNil))) (aChain leR leR (vVar 1) (aCB vLen (aCons (vVar 0) aNil)) (vVar 2))))
theorem rd_is_tuple_of (as : List AV) (AH : AHp) (Q : AV → AHp → Prop) (h : sp_is_tuple_of as AH Q) : t_is_tuple_of { nx := fun _ A2 => Cv Q .non A2, rt := Cv Q } (startA ["thing", "least", "most"] as) AH := by
  obtain ⟨xs, a, b, rfl, h1, h2, q⟩ := h
  refine ⟨_, rfl, ?_⟩
  rw [if_pos (decide_eq_true h1)]
  show Cv Q (.bl (decide _)) AH
  rw [decide_eq_true h2]
  exact Cv.of q
def sp_are_between : Spa := fun as A Q => ∃ (ns : List Int) (a b : Int), as = [.tup (ns.map .int), .int a, .int b] ∧ ns.length ≤ sizeLine ∧ (∀ n ∈ ns, a ≤ n ∧ n ≤ b) ∧ Q (.bl true) A
def t_are_between : TSa :=
  (sRet (vAnd (aCB vIsi (aCons (vVar 0) (aCons (aC (.ty "tuple")) aNil))) (aCB vAll (aCons (vLc (jSq (vVar 0)) (hName 3) aYes (aCall sp_is_between (aCons (vVar 3) (aCons (vVar 1) (aCons (vVar 2) aNil)))) [3]) aNil))))
theorem rd_are_between (as : List AV) (AH : AHp) (Q : AV → AHp → Prop) (h : sp_are_between as AH Q) : t_are_between { nx := fun _ A2 => Cv Q .non A2, rt := Cv Q } (startA ["thing", "least", "most", "number"] as) AH := by
  obtain ⟨ns, a, b, rfl, hl, hb, q⟩ := h
  walk_at "dx"
  refine lc_map (keep := free) .int (fun n => .bl true) hl keep_free (fun n hn B _ T F hT => ?_) ?_
  · refine ⟨n, a, b, rfl, ?_⟩
    rw [decide_eq_true (hb n hn).1, decide_eq_true (hb n hn).2]
    exact hT
  · exact bl_all (f := fun _ => true) (fun _ _ => rfl) (Cv.of q)


theorem sz8 {n : Nat} (h : n ≤ 1000) : n ≤ sizeLine := Nat.le_trans h (by decide)
def sp_is_name : Spa := fun as A Q => ∃ s, as = [.str s] ∧ NameOk s ∧ Q (.bl true) A
def t_is_name : TSa :=
  (sSeq (sIf (aOrT (aNotT (vTru (aCB vIsi (aCons (vVar 0) (aCons (aC (.ty "str")) aNil))))) (aOrT (aNotT (vTest (aChain leR leR (aC (.int 1)) (aCB vLen (aCons (vVar 0) aNil)) (aC (.int 8))))) (vTest (aOp (inI true) (aOp ixV (vVar 0) (aC (.int 0))) (aC (.str "abcdefghijklmnopqrstuvwxyz"))))))
      (sRet (aC (.bl false)))
      sNext)
    (sRet (aCB vAll (aCons (vLc (jSq (vVar 0)) (hName 1) aYes (aOp (inI false) (vVar 1) (aOp addR (aC (.str "abcdefghijklmnopqrstuvwxyz")) (aC (.str "0123456789")))) [1]) aNil))))
theorem rd_is_name (as : List AV) (AH : AHp) (Q : AV → AHp → Prop) (h : sp_is_name as AH Q) : t_is_name { nx := fun _ A2 => Cv Q .non A2, rt := Cv Q } (startA ["thing", "sign"] as) AH := by
  obtain ⟨s, rfl, ok, q⟩ := h
  have hl : s.length ≤ sizeLine := sz8 (by have := ok.len.2; omega)
  have h1 := ok.len.1
  have h2 := ok.len.2
  obtain ⟨c, hc, hcl⟩ := ok.fst
  have go : t_is_name { nx := fun _ A2 => Cv Q .non A2, rt := Cv Q } [some (.str s), none] AH := by
    walk_at "dx"
    rw [show lenA AH (.str s) = some s.length by unfold lenA; simp only [if_pos hl]]
    refine ⟨_, rfl, ?_⟩
    rw [if_pos (decide_eq_true (by omega))]
    walk_at "dx"
    refine dF (by simp; omega) ?_
    walk_at "dx"
    rw [show gtR0 AH (.str s) (.int 0) = some (.str ⟨#[c]⟩) by
      unfold gtR0
      simp only [if_pos hl]
      rw [atI_of (Int.le_refl 0) hc]; rfl]
    refine in_sign ?_
    rw [decide_eq_true hcl]
    walk_at "dx"
    refine lc_map (keep := free) (fun c => .str ⟨#[c]⟩) (fun n => .bl true) (by rw [Array.length_toList]; exact hl) keep_free (fun n hn B _ T F hT => ?_) ?_
    · refine ⟨by decide, in_sign ?_⟩
      rw [if_neg (by decide)]
      rw [decide_eq_true (ok.all n hn)]
      exact hT
    · exact bl_all (f := fun _ => true) (fun _ _ => rfl) (Cv.of q)
  exact go
def sp_need_number : Spa := fun as A Q => ∃ i a b : Int, as = [.int i, .int a, .int b] ∧ (a ≤ i ∧ i ≤ b) ∧ Q .non A
def t_need_number : TSa :=
  (sIf (aNotT (vTru (aCall sp_is_between (aCons (vVar 0) (aCons (vVar 1) (aCons (vVar 2) aNil))))))
      sNever
      sNext)
theorem rd_need_number (as : List AV) (AH : AHp) (Q : AV → AHp → Prop) (h : sp_need_number as AH Q) : t_need_number { nx := fun _ A2 => Cv Q .non A2, rt := Cv Q } (startA ["thing", "least", "most"] as) AH := by
  obtain ⟨i, a, b, rfl, ⟨h1, h2⟩, q⟩ := h
  refine ⟨i, a, b, rfl, ?_⟩
  rw [decide_eq_true h1, decide_eq_true h2]
  exact Cv.of q
def sp_task_names : Spa := fun as A Q => ∃ (T : List Task) (x : AV), as = [.tup [.tup (T.map encT), x]] ∧ T.length ≤ 24 ∧ Q (.fl (T.map fun t => .str t.nm)) A
def t_task_names : TSa :=
  (sRet (vLc (jSq (aOp ixV (vVar 0) (aC (.int 0)))) (hName 1) aYes (aOp ixV (vVar 1) (aC (.int 0))) [1]))
theorem rd_task_names (as : List AV) (AH : AHp) (Q : AV → AHp → Prop) (h : sp_task_names as AH Q) : t_task_names { nx := fun _ A2 => Cv Q .non A2, rt := Cv Q } (startA ["graph", "task"] as) AH := by
  obtain ⟨T, x, rfl, hl, q⟩ := h
  walk_at "dx"
  exact lc_map (keep := free) encT (fun t => .str t.nm) (sz8 (by omega)) keep_free (fun n hn B _ T F hT => hT) (Cv.of q)
/-! places of names -/
theorem first_strs : ∀ {ns : List Str} {i : Nat} {s : Str}, ns.Nodup → ns[i]? = some s → firstAt (ns.map V.str) (.str s) = some i
  | [], _, _, _, h => by simp at h
  | x :: r, 0, s, _, h => by
    have : x = s := by simpa using h
    subst this
    unfold firstAt
    rw [List.map_cons, List.findIdx?_cons]
    simp [eqV]
  | x :: r, i + 1, s, nd, h => by
    have h2 : r[i]? = some s := by simpa using h
    have ne : x ≠ s := fun e => by
      subst e
      exact (List.nodup_cons.mp nd).1 (List.mem_of_getElem? h2)
    have ih := first_strs (List.nodup_cons.mp nd).2 h2
    unfold firstAt at ih ⊢
    rw [List.map_cons, List.findIdx?_cons, ih]
    simp [eqV, ne]
theorem at_strs {ns : List Str} {i : Nat} {s : Str} (nd : ns.Nodup) (h : ns[i]? = some s) : atV (ns.map AV.str) (.str s) = some i := by
  unfold atV
  rw [flAs_strs]
  exact first_strs nd h
theorem index_of {x : AV} {A : AHp} {ns : List Str} {i : Nat} {s : Str} {Q : AV → AHp → Prop} (hx : lsOf A x = some (ns.map AV.str)) (nd : ns.Nodup) (h : ns[i]? = some s) (q : Q (.int (i : Nat)) A) : nIndex x [.str s] A Q := by
  unfold nIndex
  simp only [hx, at_strs nd h]
  exact q
def nms (T : List Task) : List Str := T.map Task.nm
theorem nms_eq (T : List Task) : (T.map fun t => AV.str t.nm) = (nms T).map AV.str := by unfold nms; rw [List.map_map]; rfl
theorem nms_get {T : List Task} {i : Nat} (h : i < T.length) : (nms T)[i]? = some (nmAt T i) := by
  unfold nms nmAt
  rw [List.getElem?_map, List.getElem?_eq_getElem h]; rfl
def sp_task_number : Spa := fun as A Q => ∃ (T : List Task) (x : AV) (i : Nat), as = [.tup [.tup (T.map encT), x], .str (nmAt T i)] ∧ T.length ≤ 24 ∧ i < T.length ∧ (nms T).Nodup ∧ Q (.int (i : Nat)) A
def t_task_number : TSa :=
  (sSeq (sIf (aOrT (aNotT (vTru (aCB vIsi (aCons (vVar 1) (aCons (aC (.ty "str")) aNil))))) (vTest (aOp (inI true) (vVar 1) (aCall sp_task_names (aCons (vVar 0) aNil)))))
      sNever
      sNext)
    (sRet (vML nIdx (aCall sp_task_names (aCons (vVar 0) aNil)) (aCons (vVar 1) aNil))))
theorem rd_task_number (as : List AV) (AH : AHp) (Q : AV → AHp → Prop) (h : sp_task_number as AH Q) : t_task_number { nx := fun _ A2 => Cv Q .non A2, rt := Cv Q } (startA ["graph", "name"] as) AH := by
  obtain ⟨T, x, i, rfl, hl, hi, nd, q⟩ := h
  walk_at "dx"
  refine ⟨T, x, rfl, hl, ?_⟩
  rw [nms_eq]
  walk_at "dx"
  refine in_strs (ns := nms T) rfl ?_
  rw [decide_eq_true (List.mem_of_getElem? (nms_get hi))]
  walk_at "dx"
  refine ⟨T, x, rfl, hl, ?_⟩
  rw [nms_eq]
  walk_at "dx"
  refine nIdx_at rfl (at_strs nd (nms_get hi)) ?_
  exact Cv.of q

abbrev n_ok (n : Nat) : Prop := n ≤ 1000
def sp_is_task : Spa := fun as A Q => ∃ t, as = [encT t] ∧ TaskOk t ∧ Q (.bl true) A
def t_is_task : TSa :=
  (sSeq (sIf (aOrT (aNotT (vTru (aCall sp_is_tuple_of (aCons (vVar 0) (aCons (aC (.int 2)) (aCons (aC (.int 2)) aNil)))))) (aNotT (vTru (aCall sp_is_name (aCons (aOp ixV (vVar 0) (aC (.int 0))) aNil)))))
      (sRet (aC (.bl false)))
      sNext)
    (sRet (vAnd (aCall sp_is_tuple_of (aCons (aOp ixV (vVar 0) (aC (.int 1))) (aCons (aC (.int 1)) (aCons (aC (.int 24)) aNil)))) (aCall sp_are_between (aCons (aOp ixV (vVar 0) (aC (.int 1))) (aCons (aC (.int 1)) (aCons (aC (.int 99)) aNil)))))))
theorem rd_is_task (as : List AV) (AH : AHp) (Q : AV → AHp → Prop) (h : sp_is_task as AH Q) : t_is_task { nx := fun _ A2 => Cv Q .non A2, rt := Cv Q } (startA ["thing"] as) AH := by
  obtain ⟨t, rfl, ok, q⟩ := h
  have h1 := ok.len.1
  have h2 := ok.len.2
  refine ⟨_, 2, 2, rfl, (by simp), (by simp), ?_⟩
  refine ⟨t.nm, rfl, ok.nm, ?_⟩
  refine ⟨_, 1, 24, rfl, by rw [List.length_map]; omega, by rw [List.length_map]; omega, ?_⟩
  exact ⟨t.ds, 1, 99, rfl, sz8 (by omega), ok.all, Cv.of q⟩
def sp_is_line : Spa := fun as A Q => ∃ T l, as = [encL T l] ∧ LnOk T l ∧ (∀ t ∈ T, TaskOk t) ∧ Q (.bl true) A
theorem LnOk.onm {T : List Task} {l : Ln} (ok : LnOk T l) (h : ∀ t ∈ T, TaskOk t) : NameOk (nmAt T l.o) := by
  obtain ⟨a, h1, _⟩ := ok.ot
  unfold nmAt
  rw [h1]
  exact (h a (List.mem_of_getElem? h1)).nm
theorem LnOk.tnm {T : List Task} {l : Ln} (ok : LnOk T l) (h : ∀ t ∈ T, TaskOk t) : NameOk (nmAt T l.t) := by
  obtain ⟨a, h1, _⟩ := ok.tt
  unfold nmAt
  rw [h1]
  exact (h a (List.mem_of_getElem? h1)).nm
theorem LnOk.glen {T : List Task} {l : Ln} (ok : LnOk T l) (h : ∀ t ∈ T, TaskOk t) : 1 ≤ l.gs.length ∧ l.gs.length ≤ 24 := by
  obtain ⟨a, h1, h2⟩ := ok.ot
  rw [h2]
  exact (h a (List.mem_of_getElem? h1)).len
theorem LnOk.tlen {T : List Task} {l : Ln} (ok : LnOk T l) (h : ∀ t ∈ T, TaskOk t) : 1 ≤ l.ts.length ∧ l.ts.length ≤ 24 := by
  obtain ⟨a, h1, h2⟩ := ok.tt
  rw [h2]
  exact (h a (List.mem_of_getElem? h1)).len
def t_is_line : TSa :=
  (sSeq (sIf (aOrT (aNotT (vTru (aCall sp_is_tuple_of (aCons (vVar 0) (aCons (aC (.int 5)) (aCons (aC (.int 5)) aNil)))))) (aOrT (aNotT (vTru (aCall sp_is_name (aCons (aOp ixV (vVar 0) (aC (.int 0))) aNil)))) (aNotT (vTru (aCall sp_is_name (aCons (aOp ixV (vVar 0) (aC (.int 1))) aNil))))))
      (sRet (aC (.bl false)))
      sNext)
    (sSeq (sIf (aOrT (aNotT (vTru (aCall sp_are_between (aCons (aOp ixV (vVar 0) (aC (.int 2))) (aCons (aC (.int 0)) (aCons (aC (.int 9)) aNil)))))) (aNotT (vTru (aCall sp_are_between (aCons (aOp ixV (vVar 0) (aC (.int 3))) (aCons (aC (.int 0)) (aCons (aC (.int 9)) aNil)))))))
      (sRet (aC (.bl false)))
      sNext)
    (sRet (aCall sp_is_between (aCons (aOp ixV (vVar 0) (aC (.int 4))) (aCons (aC (.int 0)) (aCons (aC (.int 99999)) aNil)))))))
theorem rd_is_line (as : List AV) (AH : AHp) (Q : AV → AHp → Prop) (h : sp_is_line as AH Q) : t_is_line { nx := fun _ A2 => Cv Q .non A2, rt := Cv Q } (startA ["thing"] as) AH := by
  obtain ⟨T, l, rfl, ok, hT, q⟩ := h
  refine ⟨_, 5, 5, rfl, (by simp), (by simp), ?_⟩
  refine ⟨_, rfl, ok.onm hT, ?_⟩
  refine ⟨_, rfl, ok.tnm hT, ?_⟩
  refine ⟨l.gs, 0, 9, rfl, sz8 (by have := (ok.glen hT).2; omega), ok.gs, ?_⟩
  refine ⟨l.ts, 0, 9, rfl, sz8 (by have := (ok.tlen hT).2; omega), ok.ts, ?_⟩
  refine ⟨l.st, 0, 99999, rfl, ?_⟩
  rw [decide_eq_true ok.st.1, decide_eq_true ok.st.2]
  exact Cv.of q
def sp_has_graph_form : Spa := fun as A Q => ∃ G, as = [encG G] ∧ GoodG G ∧ Q (.bl true) A
def t_has_graph_form : TSa :=
  (sSeq (sIf (aOrT (aNotT (vTru (aCall sp_is_tuple_of (aCons (vVar 0) (aCons (aC (.int 2)) (aCons (aC (.int 2)) aNil)))))) (aNotT (vTru (aCall sp_is_tuple_of (aCons (aOp ixV (vVar 0) (aC (.int 0))) (aCons (aC (.int 1)) (aCons (aC (.int 24)) aNil)))))))
      (sRet (aC (.bl false)))
      sNext)
    (sSeq (sIf (aOrT (aNotT (vTru (aCall sp_is_tuple_of (aCons (aOp ixV (vVar 0) (aC (.int 1))) (aCons (aC (.int 0)) (aCons (aC (.int 60)) aNil)))))) (aNotT (vTru (aCB vAll (aCons (vLc (jSq (aOp ixV (vVar 0) (aC (.int 0)))) (hName 2) aYes (aCall sp_is_task (aCons (vVar 2) aNil)) [2]) aNil)))))
      (sRet (aC (.bl false)))
      sNext)
    (sRet (aCB vAll (aCons (vLc (jSq (aOp ixV (vVar 0) (aC (.int 1)))) (hName 1) aYes (aCall sp_is_line (aCons (vVar 1) aNil)) [1]) aNil)))))
theorem rd_has_graph_form (as : List AV) (AH : AHp) (Q : AV → AHp → Prop) (h : sp_has_graph_form as AH Q) : t_has_graph_form { nx := fun _ A2 => Cv Q .non A2, rt := Cv Q } (startA ["thing", "line", "task"] as) AH := by
  obtain ⟨G, rfl, ok, q⟩ := h
  have h1 := ok.len.1
  have h2 := ok.len.2
  have h3 := ok.lin
  refine ⟨_, 2, 2, rfl, (by simp), (by simp), ?_⟩
  refine ⟨_, 1, 24, rfl, by rw [List.length_map]; omega, by rw [List.length_map]; omega, ?_⟩
  refine ⟨_, 0, 60, rfl, by rw [List.length_map]; omega, by rw [List.length_map]; omega, ?_⟩
  walk_at "dx"
  refine lc_map (keep := free) encT (fun n => .bl true) (sz8 (by omega)) keep_free (fun t ht B _ T F hT => ⟨t, rfl, ok.ts t ht, hT⟩) ?_
  walk_at "dx"
  refine bl_all (f := fun _ => true) (fun _ _ => rfl) ?_
  walk_at "dx"
  refine lc_map (keep := free) (encL G.tasks) (fun n => .bl true) (sz8 (by omega)) keep_free (fun l hl B _ T F hT => ⟨_, l, rfl, ok.ls l hl, ok.ts, hT⟩) ?_
  exact bl_all (f := fun _ => true) (fun _ _ => rfl) (Cv.of q)
end D

set_option Elab.async false
set_option linter.all false
set_option maxRecDepth 100000
namespace D
open PySem PySem.Spec L2
local macro_rules | `(tactic| walk_at "dx") => `(tactic| conv => whnf)
section
variable {keep : AHp → Prop} {g : TGa} {D : EndsA} {tt : TTa} {te tk tv : TEa} {env : AEnv}
theorem rDc_inv {Dd : Addr} {Q : List (Key × AV) → AHp → Prop} (Inv : Nat → List (Key × AV) → AHp → Prop) {items : List AV} {A : AHp} (h0 : Inv 0 [] A)
    (hD : ∀ i acc A, Inv i acc A → A Dd = some (.dct acc))
    (step : ∀ i x acc A, items[i]? = some x → Inv i acc A → ∀ (T : AV → AV → AHp → Prop) (F : AHp → Prop),
      (∀ y z k A5, keyA y = some k → (A5 Dd = some (.dct acc) ∧ acc.length < sizeLine ∧ keep (updA A5 Dd (.dct (putA acc k z))) ∧ Inv (i + 1) (putA acc k z) (updA A5 Dd (.dct (putA acc k z)))) → T y z A5) →
      g x env A fun e2 A2 => tt e2 A2 fun b A3 => if b = true then tk e2 A3 fun y A4 => tv e2 A4 fun z A5 => T y z A5 else F A3)
    (fin : ∀ acc A, Inv items.length acc A → Q acc A) : rDc keep g tt tk tv env Dd Q items [] A := by
  have go : ∀ (ys : List AV) (i : Nat) acc A, items.drop i = ys → i ≤ items.length → Inv i acc A → rDc keep g tt tk tv env Dd Q ys acc A := by
    intro ys
    induction ys with
    | nil => intro i acc A hd hi hI; exact rDc_nil (hD _ _ _ hI) (fin acc A (by
        have := congrArg List.length hd
        rw [List.length_drop] at this
        have e2 : i = items.length := by simp at this; omega
        rw [← e2]; exact hI))
    | cons y ys ih =>
      intro i acc A hd hi hI
      have hl : i < items.length := by
        have := congrArg List.length hd
        rw [List.length_drop] at this
        simp at this; omega
      have hy : items[i]? = some y := by
        have := congrArg (fun l => l[0]?) hd
        simpa using this
      have hd2 : items.drop (i + 1) = ys := by
        rw [← List.drop_drop, hd]; rfl
      exact rDc_cons (step i y acc A hy hI _ _ (fun y z k A5 hk ⟨a, b, c, d⟩ => ⟨k, hk, a, b, c, ih (i + 1) _ _ hd2 hl d⟩))
  exact go items 0 [] A rfl (Nat.zero_le _) h0
theorem putA_new {kvs : List (Key × AV)} {k : Key} {v : AV} (h : ∀ p ∈ kvs, p.1 ≠ k) : putA kvs k v = kvs ++ [(k, v)] := by
  unfold putA
  rw [if_neg]
  simp
  intro a m
  exact h _ m rfl
theorem dc_map {α : Type} (f : α → AV) (k : α → Str) (v : α → AV) {ys : List α} {A : AHp} {Q : AV → AHp → Prop} (hlen : ys.length ≤ sizeLine) (nd : (ys.map k).Nodup) (hk : ∀ p o, A p = none → keep (updA A p o))
    (step : ∀ y ∈ ys, ∀ B : AHp, SubA A B → ∀ (T : AV → AV → AHp → Prop) (F : AHp → Prop), T (.str (k y)) (v y) B → g (f y) env B fun e2 A2 => tt e2 A2 fun b A3 => if b = true then tk e2 A3 fun y A4 => tv e2 A4 fun z A5 => T y z A5 else F A3)
    (q : ∀ p, A p = none → Q (.ref p) (updA A p (.dct (ys.map fun y => (.inr (k y), v y))))) : dcT keep g tt tk tv env (ys.map f) A Q := by
  unfold dcT
  intro p hp
  refine ⟨hk p _ hp, rDc_inv (fun i acc B => acc = (ys.take i).map (fun y => (Sum.inr (k y), v y)) ∧ B = updA A p (.dct acc)) ⟨rfl, rfl⟩ (fun i acc B ⟨_, e⟩ => by rw [e]; exact updA_same) (fun i x acc B hx ⟨ea, eb⟩ T F hT => ?_) (fun acc B ⟨ea, eb⟩ => ?_)⟩
  · obtain ⟨y, hy, rfl⟩ : ∃ y, ys[i]? = some y ∧ f y = x := by
      rw [List.getElem?_map] at hx
      exact Option.map_eq_some_iff.mp hx
    have hi : i < ys.length := (List.getElem?_eq_some_iff.mp hy).1
    have al : acc.length ≤ i := by rw [ea, List.length_map, List.length_take]; omega
    have et : ys.take (i + 1) = ys.take i ++ [y] := by rw [List.take_succ, hy]; rfl
    subst eb
    have hn : ∀ q ∈ acc, q.1 ≠ Sum.inr (k y) := by
      intro q hq e
      rw [ea] at hq
      obtain ⟨z, hz, rfl⟩ := List.mem_map.mp hq
      have e2 : k z = k y := by injection e
      obtain ⟨j, hj, ej⟩ := List.getElem_of_mem hz
      rw [List.getElem_take] at ej
      have hj2 : j < i := by rw [List.length_take] at hj; omega
      have g1 : (ys.map k)[j]? = some (k y) := by rw [List.getElem?_map, List.getElem?_eq_getElem (by omega), ej, ← e2]; rfl
      have g2 : (ys.map k)[i]? = some (k y) := by rw [List.getElem?_map, hy]; rfl
      have := (List.getElem?_inj (List.getElem?_eq_some_iff.mp g1).1 nd).mp (g1.trans g2.symm)
      omega
    refine step y (List.mem_of_getElem? hy) _ (SubA.new hp) T F ?_
    refine hT _ _ (.inr (k y)) _ rfl ⟨updA_same, by omega, ?_, ?_, ?_⟩
    · rw [updA_upd]; exact hk p _ hp
    · rw [putA_new hn, et, List.map_append, ← ea]; rfl
    · rw [updA_upd]
  · subst eb
    rw [ea, List.length_map, List.take_length]
    exact q p hp
end
theorem valA_map {α : Type} {k : α → Str} {v : α → AV} : ∀ {ys : List α} {i : Nat} {y : α}, (ys.map k).Nodup → ys[i]? = some y → valA (ys.map fun y => (.inr (k y), v y)) (.inr (k y)) = some (v y)
  | [], _, _, _, h => by simp at h
  | x :: r, 0, y, _, h => by
    have : x = y := by simpa using h
    subst this
    unfold valA
    rw [List.map_cons, List.find?_cons]
    simp
  | x :: r, i + 1, y, nd, h => by
    have h2 : r[i]? = some y := by simpa using h
    have ne : k x ≠ k y := fun e => by
      have := (List.nodup_cons.mp nd).1
      rw [e] at this
      exact this (List.mem_map.mpr ⟨y, List.mem_of_getElem? h2, rfl⟩)
    have ih := valA_map (v := v) (List.nodup_cons.mp nd).2 h2
    unfold valA at ih ⊢
    rw [List.map_cons, List.find?_cons]
    have : decide ((Sum.inr (k x) : Key) = Sum.inr (k y)) = false := decide_eq_false fun e => ne (by injection e)
    simp only [this]
    exact ih
theorem nmAt_of {T : List Task} {i : Nat} {a : Task} (h : T[i]? = some a) : nmAt T i = a.nm := by unfold nmAt; rw [h]; rfl
def sp_fits : Spa := fun as A Q => ∃ G l, as = [encG G, encL G.tasks l] ∧ GoodG G ∧ LnOk G.tasks l ∧ Q (.bl true) A
def t_fits : TSa :=
  (sSeq (sAsg (vDc (jSq (aOp ixV (vVar 0) (aC (.int 0)))) (hName 3) aYes (aOp ixV (vVar 3) (aC (.int 0))) (aCB vLen (aCons (aOp ixV (vVar 3) (aC (.int 1))) aNil)) [3]) (hName 2))
    (sSeq (sIf (aOrT (vTest (aOp (inI true) (aOp ixV (vVar 1) (aC (.int 0))) (vVar 2))) (vTest (aOp (inI true) (aOp ixV (vVar 1) (aC (.int 1))) (vVar 2))))
      (sRet (aC (.bl false)))
      sNext)
    (sSeq (sIf (aOrT (vTest (aOp neW (aCB vLen (aCons (aOp ixV (vVar 1) (aC (.int 2))) aNil)) (aOp ixV (vVar 2) (aOp ixV (vVar 1) (aC (.int 0)))))) (vTest (aOp neW (aCB vLen (aCons (aOp ixV (vVar 1) (aC (.int 3))) aNil)) (aOp ixV (vVar 2) (aOp ixV (vVar 1) (aC (.int 1)))))))
      (sRet (aC (.bl false)))
      sNext)
    (sRet (vAnd (aOp gtR (aCB vSum (aCons (aOp ixV (vVar 1) (aC (.int 2))) aNil)) (aC (.int 0))) (aOp gtR (aCB vSum (aCons (aOp ixV (vVar 1) (aC (.int 3))) aNil)) (aC (.int 0))))))))
theorem rd_fits (as : List AV) (AH : AHp) (Q : AV → AHp → Prop) (h : sp_fits as AH Q) : t_fits { nx := fun _ A2 => Cv Q .non A2, rt := Cv Q } (startA ["graph", "line", "phases", "task"] as) AH := by
  obtain ⟨G, l, rfl, ok, lo, q⟩ := h
  obtain ⟨a, ha, hga⟩ := lo.ot
  obtain ⟨b, hb, hgb⟩ := lo.tt
  have h2 := ok.len.2
  have go : t_fits { nx := fun _ A2 => Cv Q .non A2, rt := Cv Q } [some (encG G), some (encL G.tasks l), none, none] AH := by
    walk_at "dx"
    refine dc_map (keep := free) encT Task.nm (fun t => .int (t.ds.map AV.int).length) (sz8 (by omega)) ok.nod keep_free (fun t ht B _ T F hT => hT) fun p hp => ?_
    have e1 := valA_map (v := fun t : Task => AV.int (t.ds.map AV.int).length) ok.nod ha
    have e2 := valA_map (v := fun t : Task => AV.int (t.ds.map AV.int).length) ok.nod hb
    rw [← nmAt_of ha] at e1
    rw [← nmAt_of hb] at e2
    have lk : updA AH p (.dct (G.tasks.map fun t : Task => (Sum.inr t.nm, AV.int (t.ds.map AV.int).length))) p = some (.dct (G.tasks.map fun t : Task => (Sum.inr t.nm, AV.int (t.ds.map AV.int).length))) := updA_same
    walk_at "dx"
    refine in_dct lk e1 ?_
    walk_at "dx"
    refine in_dct lk e2 ?_
    walk_at "dx"
    rw [gt_dct lk e1]
    walk_at "dx"
    refine dF (by simp; omega) ?_
    walk_at "dx"
    rw [gt_dct lk e2]
    walk_at "dx"
    refine dF (by simp; omega) ?_
    walk_at "dx"
    rw [aInts_map]
    walk_at "dx"
    refine dT (by simp; exact lo.gp) ?_
    walk_at "dx"
    rw [aInts_map]
    walk_at "dx"
    show Cv Q (.bl (decide (0 < l.ts.sum))) _
    rw [decide_eq_true lo.tp]
    exact Cv.drop (SubA.new hp) q
  exact go

def sp_look_at_graph : Spa := fun as A Q => ∃ G, as = [encG G] ∧ GoodG G ∧ Q .non A
def t_look_at_graph : TSa :=
  (sSeq (sIf (aNotT (vTru (aCall sp_has_graph_form (aCons (vVar 0) aNil))))
      sNever
      sNext)
    (sSeq (sAsg (aCall sp_task_names (aCons (vVar 0) aNil)) (hName 1))
    (sSeq (sIf (vTest (aOp neW (vLenSet (vVar 1)) (aCB vLen (aCons (vVar 1) aNil))))
      sNever
      sNext)
    (sIf (aNotT (vTru (aCB vAll (aCons (vLc (jSq (aOp ixV (vVar 0) (aC (.int 1)))) (hName 2) aYes (aCall sp_fits (aCons (vVar 0) (aCons (vVar 2) aNil))) [2]) aNil))))
      sNever
      sNext))))
theorem rd_look_at_graph (as : List AV) (AH : AHp) (Q : AV → AHp → Prop) (h : sp_look_at_graph as AH Q) : t_look_at_graph { nx := fun _ A2 => Cv Q .non A2, rt := Cv Q } (startA ["graph", "names", "line"] as) AH := by
  obtain ⟨G, rfl, ok, q⟩ := h
  have h1 := ok.len.1
  have h2 := ok.len.2
  have h3 := ok.lin
  refine ⟨G, rfl, ok, ?_⟩
  refine ⟨G.tasks, _, rfl, h2, ?_⟩
  rw [nms_eq]
  walk_at "dx"
  rw [keysL_strs]
  refine ⟨by rw [List.length_map]; unfold nms; rw [List.length_map]; omega, ?_⟩
  have nd : ((nms G.tasks).map (Sum.inr : Str → Key)).Nodup := by
    have := ok.nod
    unfold nms
    rw [List.nodup_iff_pairwise_ne] at this ⊢
    exact List.Pairwise.map _ (fun a b ne e => ne (by injection e)) this
  rw [metsK_nodup nd]
  walk_at "dx"
  refine dF (by simp) ?_
  walk_at "dx"
  refine lc_map (keep := free) (encL G.tasks) (fun n => .bl true) (sz8 (by omega)) keep_free (fun l hl B _ T F hT => ⟨G, l, rfl, ok, ok.ls l hl, hT⟩) ?_
  walk_at "dx"
  refine bl_all (f := fun _ => true) (fun _ _ => rfl) ?_
  exact Cv.of q
structure Sta where
  ph : List Int
  st : List Int
def encS (S : Sta) : AV := .tup [.tup (S.ph.map .int), .tup (S.st.map .int)]
def beginS (G : Gr) : Sta := ⟨List.replicate G.tasks.length 0, G.lines.map Ln.st⟩
def sp_beginning : Spa := fun as A Q => ∃ G, as = [encG G] ∧ GoodG G ∧ Q (encS (beginS G)) A
theorem flat_rep {α : Type} (n : Nat) (x : α) : (List.replicate n [x]).flatten = List.replicate n x := by
  induction n with
  | zero => rfl
  | succ n ih => rw [List.replicate_succ, List.flatten_cons, ih, List.replicate_succ]; rfl
def t_beginning : TSa :=
  (sRet (aTup (aCons (aOp mulT (aTup (aCons (aC (.int 0)) aNil)) (aCB vLen (aCons (aOp ixV (vVar 0) (aC (.int 0))) aNil))) (aCons (aCB vTuple (aCons (vLc (jSq (aOp ixV (vVar 0) (aC (.int 1)))) (hName 1) aYes (aOp ixV (vVar 1) (aC (.int 4))) [1]) aNil)) aNil))))
theorem rd_beginning (as : List AV) (AH : AHp) (Q : AV → AHp → Prop) (h : sp_beginning as AH Q) : t_beginning { nx := fun _ A2 => Cv Q .non A2, rt := Cv Q } (startA ["graph", "line"] as) AH := by
  obtain ⟨G, rfl, ok, q⟩ := h
  have h1 := ok.len.1
  have h2 := ok.len.2
  have h3 := ok.lin
  refine ⟨by simp; decide, ?_⟩
  refine ⟨by simp, by rw [List.length_map]; omega, by rw [List.length_map]; omega, by simp, ?_⟩
  walk_at "dx"
  refine lc_map (keep := free) (encL G.tasks) (fun l => .int l.st) (sz8 (by omega)) keep_free (fun l hl B _ T F hT => hT) ?_
  refine ⟨by simp; decide, ?_⟩
  unfold encS beginS at q
  rw [flat_rep, List.length_map]
  simp only [List.map_replicate, List.map_map] at q
  exact Cv.of q
def sp_first_state : Spa := fun as A Q => ∃ G, as = [encG G] ∧ GoodG G ∧ Q (encS (beginS G)) A
def t_first_state : TSa :=
  (sSeq (sDrop (aCall sp_look_at_graph (aCons (vVar 0) aNil)))
    (sRet (aCall sp_beginning (aCons (vVar 0) aNil))))
theorem rd_first_state (as : List AV) (AH : AHp) (Q : AV → AHp → Prop) (h : sp_first_state as AH Q) : t_first_state { nx := fun _ A2 => Cv Q .non A2, rt := Cv Q } (startA ["graph"] as) AH := by
  obtain ⟨G, rfl, ok, q⟩ := h
  exact ⟨G, rfl, ok, ⟨G, rfl, ok, Cv.of q⟩⟩
structure GoodS (G : Gr) (S : Sta) : Prop where
  pl : S.ph.length = G.tasks.length
  sl : S.st.length = G.lines.length
  pb : ∀ p ∈ S.ph, (0 : Int) ≤ p ∧ p ≤ 23
  sb : ∀ p ∈ S.st, (0 : Int) ≤ p ∧ p ≤ 999999
  pp : ∀ p ∈ S.ph.zip G.tasks, p.1 < (p.2.ds.length : Nat)
theorem zip_map {α β : Type} (f : α → AV) (g : β → AV) : ∀ (xs : List α) (ys : List β), zipA (xs.map f) (ys.map g) = (xs.zip ys).map fun p => .tup [f p.1, g p.2]
  | [], _ => by simp [zipA]
  | _ :: _, [] => by simp [zipA]
  | x :: xs, y :: ys => by
    have := zip_map f g xs ys
    unfold zipA at this ⊢
    simp only [List.map_cons, List.zip_cons_cons]
    rw [this]
def sp_look_at_state : Spa := fun as A Q => ∃ G S, as = [encG G, encS S] ∧ GoodG G ∧ GoodS G S ∧ Q .non A
def t_look_at_state : TSa :=
  (sSeq (sIf (aOrT (aNotT (vTru (aCall sp_is_tuple_of (aCons (vVar 1) (aCons (aC (.int 2)) (aCons (aC (.int 2)) aNil)))))) (aNotT (vTru (aCall sp_are_between (aCons (aOp ixV (vVar 1) (aC (.int 0))) (aCons (aC (.int 0)) (aCons (aOp subR (aC (.int 24)) (aC (.int 1))) aNil)))))))
      sNever
      sNext)
    (sSeq (sIf (aNotT (vTru (aCall sp_are_between (aCons (aOp ixV (vVar 1) (aC (.int 1))) (aCons (aC (.int 0)) (aCons (aC (.int 999999)) aNil))))))
      sNever
      sNext)
    (sSeq (sIf (vTest (aOp neW (aCB vLen (aCons (aOp ixV (vVar 1) (aC (.int 0))) aNil)) (aCB vLen (aCons (aOp ixV (vVar 0) (aC (.int 0))) aNil))))
      sNever
      sNext)
    (sSeq (sIf (aNotT (vTru (aCB vAll (aCons (vLc (iZp (aCons (aOp ixV (vVar 1) (aC (.int 0))) (aCons (aOp ixV (vVar 0) (aC (.int 0))) aNil))) (kTup 2 (kCons (hName 2) (kCons (hName 3) kNil))) aYes (aOp ltR (vVar 2) (aCB vLen (aCons (aOp ixV (vVar 3) (aC (.int 1))) aNil))) [2, 3]) aNil))))
      sNever
      sNext)
    (sIf (vTest (aOp neW (aCB vLen (aCons (aOp ixV (vVar 1) (aC (.int 1))) aNil)) (aCB vLen (aCons (aOp ixV (vVar 0) (aC (.int 1))) aNil))))
      sNever
      sNext)))))
theorem rd_look_at_state (as : List AV) (AH : AHp) (Q : AV → AHp → Prop) (h : sp_look_at_state as AH Q) : t_look_at_state { nx := fun _ A2 => Cv Q .non A2, rt := Cv Q } (startA ["graph", "state", "phase", "task"] as) AH := by
  obtain ⟨G, S, rfl, ok, so, q⟩ := h
  have h1 := ok.len.1
  have h2 := ok.len.2
  have h3 := ok.lin
  have h4 := so.pl
  have h5 := so.sl
  refine ⟨_, 2, 2, rfl, (by simp), (by simp), ?_⟩
  refine ⟨S.ph, 0, 23, rfl, sz8 (by omega), so.pb, ?_⟩
  refine ⟨S.st, 0, 999999, rfl, sz8 (by omega), so.sb, ?_⟩
  walk_at "dx"
  refine dF (by simp; omega) ?_
  walk_at "dx"
  rw [zip_map]
  refine lc_map (keep := free) (fun p : Int × Task => .tup [.int p.1, encT p.2]) (fun p => .bl true) (sz8 (by rw [List.length_zip]; omega)) keep_free (fun p hp B _ T F hT => ?_) ?_
  · walk_at "dx"
    rw [decide_eq_true (by rw [List.length_map]; exact so.pp p hp)]
    exact hT
  · walk_at "dx"
    refine bl_all (f := fun _ => true) (fun _ _ => rfl) ?_
    walk_at "dx"
    refine dF (by simp; omega) ?_
    exact Cv.of q
end D

set_option Elab.async false
set_option linter.all false
set_option maxRecDepth 100000
namespace D
open PySem PySem.Spec L2
local macro_rules | `(tactic| walk_at "dx") => `(tactic| conv => whnf)
/-! ### lists of lists -/
/-- the objects ps hold what cur tells, over what was there -/
structure LHp (A0 A : AHp) (ps : List Addr) (cur : List (List AV)) : Prop where
  len : ps.length = cur.length
  nod : ps.Nodup
  fresh : ∀ p ∈ ps, A0 p = none
  sub : SubA A0 A
  at_ : ∀ (i : Nat) p c, ps[i]? = some p → cur[i]? = some c → A p = some (.lst c)
theorem lhp_set {A0 A : AHp} {ps : List Addr} {cur : List (List AV)} (h : LHp A0 A ps cur) {i : Nat} {p : Addr} {c : List AV} (hp : ps[i]? = some p) : LHp A0 (updA A p (.lst c)) ps (cur.set i c) where
  len := by rw [List.length_set]; exact h.len
  nod := h.nod
  fresh := h.fresh
  sub := fun a o e => by
    have ne : a ≠ p := fun q => by subst q; rw [h.fresh a (List.mem_of_getElem? hp)] at e; cases e
    rw [updA_ne ne]; exact h.sub a o e
  at_ := fun j q d hq hd => by
    by_cases e : j = i
    · subst e
      rw [hp] at hq
      cases hq
      rw [List.getElem?_set_self (by rw [← h.len]; exact (List.getElem?_eq_some_iff.mp hp).1)] at hd
      cases hd
      exact updA_same
    · rw [List.getElem?_set_ne (Ne.symm e)] at hd
      have ne : q ≠ p := fun r => by
        subst r
        exact e ((List.getElem?_inj (List.getElem?_eq_some_iff.mp hq).1 h.nod).mp (hq.trans hp.symm))
      rw [updA_ne ne]
      exact h.at_ j q d hq hd
theorem lhp_conv {A0 A : AHp} : ∀ {ps : List Addr} {cur : List (List AV)}, LHp A0 A ps cur → Convs A A0 (ps.map .ref) (cur.map .fl)
  | [], [], _ => .nil
  | [], _ :: _, h => by have := h.len; simp at this
  | _ :: _, [], h => by have := h.len; simp at this
  | p :: ps, c :: cur, h => by
    have same : ∀ xs : List AV, Convs A A0 xs xs := fun xs => by
      induction xs with
      | nil => exact .nil
      | cons x r ih => exact .cons (.same x) ih
    refine .cons (.frz (h.at_ 0 p c rfl rfl) (h.fresh p (List.mem_cons_self ..)) (same c)) (lhp_conv ⟨?_, (List.nodup_cons.mp h.nod).2, fun q m => h.fresh q (List.mem_cons_of_mem _ m), h.sub, fun i q d hq hd => h.at_ (i + 1) q d (by simpa using hq) (by simpa using hd)⟩)
    have := h.len
    simpa using this
/-- [[] for _ in xs] -/
theorem lc_lists {keep : AHp → Prop} {g : TGa} {tt : TTa} {te : TEa} {env : AEnv} {items : List AV} {A : AHp} {Q : AV → AHp → Prop} (hlen : items.length ≤ sizeLine) (hk : ∀ B, keep B)
    (step : ∀ x ∈ items, ∀ B : AHp, ∀ (T : AV → AHp → Prop) (F : AHp → Prop), (∀ p, B p = none → T (.ref p) (updA B p (.lst []))) → g x env B fun e2 A2 => tt e2 A2 fun b A3 => if b = true then te e2 A3 T else F A3)
    (q : ∀ (ps : List Addr) (B : AHp), LHp A B ps (List.replicate items.length []) → Q (.fl (ps.map .ref)) B) : lcT keep g tt te env items A Q := by
  unfold lcT
  intro D hD
  refine ⟨hk _, rLc_inv (fun i acc B => B D = some (.lst acc) ∧ ∃ ps : List Addr, acc = ps.map .ref ∧ ps.length = i ∧ ps.Nodup ∧ SubA A B ∧ ∀ p ∈ ps, A p = none ∧ p ≠ D ∧ B p = some (.lst [])) ⟨updA_same, [], rfl, rfl, List.nodup_nil, SubA.new hD, fun _ m => by cases m⟩
    (fun i acc B h => h.1) (fun i x acc B hx ⟨hB, ps, ea, el, nd, sb, hp⟩ T F hT hF => ?_) (fun acc B ⟨hB, ps, ea, el, nd, sb, hp⟩ => ?_)⟩
  · have hi : i < items.length := (List.getElem?_eq_some_iff.mp hx).1
    refine step x (List.mem_of_getElem? hx) B T F fun p hpn => ?_
    have neD : p ≠ D := fun e => by subst e; rw [hB] at hpn; cases hpn
    have hA : A p = none := sb.noneA hpn
    have hb2 : updA B p (.lst []) D = some (.lst acc) := by rw [updA_ne (Ne.symm neD)]; exact hB
    refine hT _ _ ⟨hb2, by rw [ea, List.length_map]; omega, hk _, updA_same, ps ++ [p], by rw [ea, List.map_append]; rfl, by rw [List.length_append, el]; rfl, ?_, ?_, ?_⟩
    · rw [List.nodup_append]
      refine ⟨nd, List.nodup_cons.mpr ⟨by simp, List.nodup_nil⟩, fun a ma b mb e => ?_⟩
      rw [List.mem_singleton] at mb
      subst mb
      subst e
      rw [(hp _ ma).2.2] at hpn; cases hpn
    · intro a o e
      have n1 : a ≠ D := fun q => by subst q; rw [hD] at e; cases e
      have n2 : a ≠ p := fun q => by subst q; rw [hA] at e; cases e
      rw [updA_ne n1, updA_ne n2]
      exact sb a o e
    · intro a ma
      rcases List.mem_append.mp ma with m | m
      · have h := hp a m
        have n2 : a ≠ p := fun q => by subst q; rw [h.2.2] at hpn; cases hpn
        exact ⟨h.1, h.2.1, by rw [updA_ne h.2.1, updA_ne n2]; exact h.2.2⟩
      · rw [List.mem_singleton] at m
        subst m
        exact ⟨hA, neD, by rw [updA_ne neD]; exact updA_same⟩
  · show Q (.fl acc) (delA B D)
    rw [ea]
    refine q ps _ ⟨by rw [List.length_replicate, el], nd, fun p m => (hp p m).1, fun a o e => ?_, fun i p c h1 h2 => ?_⟩
    · have n1 : a ≠ D := fun q => by subst q; rw [hD] at e; cases e
      unfold delA
      rw [if_neg n1]
      exact sb a o e
    · have h := hp p (List.mem_of_getElem? h1)
      rw [List.getElem?_replicate] at h2
      split at h2
      · cases h2
        unfold delA
        rw [if_neg h.2.1]
        exact h.2.2
      · cases h2
def leadBy (f : Ln → Nat) (ls : List Ln) (k : Nat) : List Nat := (ls.zipIdx.filter fun p => f p.1 == k).map (·.2)
theorem leadBy_snoc (f : Ln → Nat) (ls : List Ln) (l : Ln) (k : Nat) : leadBy f (ls ++ [l]) k = if f l = k then leadBy f ls k ++ [ls.length] else leadBy f ls k := by
  unfold leadBy
  rw [List.zipIdx_append, List.filter_append, List.map_append]
  by_cases h : f l = k
  · rw [if_pos h]; simp [h]
  · rw [if_neg h]; simp [h]
def leadV (f : Ln → Nat) (ls : List Ln) (n : Nat) : List (List AV) := (List.range n).map fun k => (leadBy f ls k).map fun (j : Nat) => AV.int (j : Nat)
theorem leadV_len {f : Ln → Nat} {ls : List Ln} {n : Nat} : (leadV f ls n).length = n := by unfold leadV; rw [List.length_map, List.length_range]
theorem leadV_get {f : Ln → Nat} {ls : List Ln} {n k : Nat} (h : k < n) : (leadV f ls n)[k]? = some ((leadBy f ls k).map fun (j : Nat) => AV.int (j : Nat)) := by
  unfold leadV
  rw [List.getElem?_map, List.getElem?_range h]; rfl
theorem leadV_snoc {f : Ln → Nat} {ls : List Ln} {l : Ln} {n : Nat} (h : f l < n) : leadV f (ls ++ [l]) n = (leadV f ls n).set (f l) ((leadBy f ls (f l)).map (fun (j : Nat) => AV.int (j : Nat)) ++ [.int (ls.length : Nat)]) := by
  apply List.ext_getElem?
  intro k
  by_cases hk : k < n
  · rw [leadV_get hk, leadBy_snoc]
    by_cases e : f l = k
    · subst e
      rw [List.getElem?_set_self (by rw [leadV_len]; exact hk), if_pos rfl, List.map_append]; rfl
    · rw [List.getElem?_set_ne e, leadV_get hk, if_neg e]
  · rw [List.getElem?_eq_none (by rw [leadV_len]; omega), List.getElem?_eq_none (by rw [List.length_set, leadV_len]; omega)]
theorem leadBy_len (f : Ln → Nat) (ls : List Ln) (k : Nat) : (leadBy f ls k).length ≤ ls.length := by
  unfold leadBy
  rw [List.length_map]
  exact Nat.le_trans (List.length_filter_le ..) (by rw [List.length_zipIdx]; exact Nat.le_refl _)
theorem lsOf_append {A : AHp} {p : Addr} {xs : List AV} {y : AV} {Q : AV → AHp → Prop} (h : A p = some (.lst xs)) (hl : xs.length < sizeLine) (q : Q .non (updA A p (.lst (xs ++ [y])))) : nAppend (.ref p) [y] A Q := by
  unfold nAppend
  simp only [h]
  exact ⟨hl, q⟩
theorem GoodG.nd {G : Gr} (ok : GoodG G) : (nms G.tasks).Nodup := ok.nod
def sp_leading_to : Spa := fun as A Q => ∃ G, as = [encG G] ∧ GoodG G ∧ Q (.fl ((leadV Ln.t G.lines G.tasks.length).map .fl)) A
def t_leading_to : TSa :=
  (sSeq (sAsg (aCall sp_task_names (aCons (vVar 0) aNil)) (hName 1))
    (sSeq (sAsg (vLc (jSq (vVar 1)) (hName 5) aYes (aLst aNil) [5]) (hName 2))
    (sSeq (sForV (jEnu (aCons (aOp ixV (vVar 0) (aC (.int 1))) aNil)) (kTup 2 (kCons (hName 3) (kCons (hName 4) kNil)))
      (sDrop (vML nApp (aOp ixV (vVar 2) (vML nIdx (vVar 1) (aCons (aOp ixV (vVar 4) (aC (.int 1))) aNil))) (aCons (vVar 3) aNil))))
    (sRet (vVar 2)))))
theorem rd_leading_to (as : List AV) (AH : AHp) (Q : AV → AHp → Prop) (h : sp_leading_to as AH Q) : t_leading_to { nx := fun _ A2 => Cv Q .non A2, rt := Cv Q } (startA ["graph", "names", "lists", "number", "line", "_"] as) AH := by
  obtain ⟨G, rfl, ok, q⟩ := h
  have h1 := ok.len.1
  have h2 := ok.len.2
  have h3 := ok.lin
  refine ⟨G.tasks, _, rfl, h2, ?_⟩
  rw [nms_eq]
  have go : ∀ e : AEnv, e = [some (encG G), some (.fl ((nms G.tasks).map .str)), none, none, none, none] → (sSeq (sAsg (vLc (jSq (vVar 1)) (hName 5) aYes (aLst aNil) [5]) (hName 2))
    (sSeq (sForV (jEnu (aCons (aOp ixV (vVar 0) (aC (.int 1))) aNil)) (kTup 2 (kCons (hName 3) (kCons (hName 4) kNil)))
      (sDrop (vML nApp (aOp ixV (vVar 2) (vML nIdx (vVar 1) (aCons (aOp ixV (vVar 4) (aC (.int 1))) aNil))) (aCons (vVar 3) aNil))))
    (sRet (vVar 2)))) { nx := fun _ A2 => Cv Q .non A2, rt := Cv Q } e AH := by
    intro e he
    subst he
    walk_at "dx"
    refine lc_lists (keep := free) (by rw [List.length_map]; unfold nms; rw [List.length_map]; exact sz8 (by omega)) (fun _ => trivial) (fun x hx B T F hT => ⟨by simp, fun p hp => hT p hp⟩) fun ps B hB => ?_
    have en : (List.map AV.str (nms G.tasks)).length = G.tasks.length := by rw [List.length_map]; unfold nms; rw [List.length_map]
    rw [en] at hB
    walk_at "dx"
    refine rFor_inv (fun i e A => (∃ x y, e = [some (encG G), some (.fl ((nms G.tasks).map .str)), some (.fl (ps.map .ref)), x, y, none]) ∧ LHp AH A ps (leadV Ln.t (G.lines.take i) G.tasks.length)) ⟨⟨_, _, rfl⟩, ?_⟩ ?_ ?_
    · have : leadV Ln.t (G.lines.take 0) G.tasks.length = List.replicate G.tasks.length [] := by
        unfold leadV leadBy
        simp only [List.take_zero, List.zipIdx_nil, List.filter_nil, List.map_nil]
        exact List.ext_getElem? fun i => by
          rw [List.getElem?_map, List.getElem?_replicate]
          by_cases h : i < G.tasks.length
          · rw [List.getElem?_range h, if_pos h]; rfl
          · rw [List.getElem?_eq_none (by rw [List.length_range]; omega), if_neg h]; rfl
      rw [this]; exact hB
    · rintro i x e A hx ⟨⟨u, v, rfl⟩, hA⟩ N hN
      obtain ⟨l, hl, rfl⟩ : ∃ l, G.lines[i]? = some l ∧ AV.tup [.int (i : Nat), encL G.tasks l] = x := by
        unfold enumA at hx
        rw [List.getElem?_map, List.getElem?_zipIdx, List.getElem?_map] at hx
        cases e : G.lines[i]? with
        | none => rw [e] at hx; simp at hx
        | some l => rw [e] at hx; simp at hx; exact ⟨l, rfl, hx⟩
      have lo := ok.ls l (List.mem_of_getElem? hl)
      obtain ⟨a, ha, _⟩ := lo.tt
      have ht : l.t < G.tasks.length := (List.getElem?_eq_some_iff.mp ha).1
      have hi : i < G.lines.length := (List.getElem?_eq_some_iff.mp hl).1
      obtain ⟨p, hp⟩ : ∃ p, ps[l.t]? = some p := ⟨_, List.getElem?_eq_getElem (by rw [hA.len, leadV_len]; exact ht)⟩
      walk_at "dx"
      refine nIdx_at (j := l.t) rfl (at_strs (i := l.t) ok.nd (nms_get ht)) ?_
      walk_at "dx"
      rw [gt_ls (x := .fl (ps.map .ref)) (v := .ref p) rfl (by simp) (by simp [hp])]
      have hap := hA.at_ l.t p _ hp (leadV_get ht)
      walk_at "dx"
      rw [ls_ref hap]
      walk_at "dx"
      refine nApp_lst hap ?_ ?_
      · rw [List.length_map]
        refine Nat.lt_of_le_of_lt (leadBy_len ..) ?_
        rw [List.length_take]
        exact Nat.lt_of_lt_of_le (by omega : _ < 1000) (by decide)
      · refine ⟨trivial, hN _ _ ⟨⟨_, _, rfl⟩, ?_⟩⟩
        have et : G.lines.take (i + 1) = G.lines.take i ++ [l] := by rw [List.take_succ, hl]; rfl
        rw [et, leadV_snoc ht, List.length_take, Nat.min_eq_left (by omega)]
        exact lhp_set hA hp
    · rintro e A ⟨⟨u, v, rfl⟩, hA⟩
      unfold enumA at hA
      rw [List.length_map, List.length_zipIdx, List.length_map, List.take_length] at hA
      walk_at "dx"
      exact ⟨_, AH, hA.sub, .fl (lhp_conv hA), q⟩
  exact go _ rfl
def sp_leading_from : Spa := fun as A Q => ∃ G, as = [encG G] ∧ GoodG G ∧ Q (.fl ((leadV Ln.o G.lines G.tasks.length).map .fl)) A
def t_leading_from : TSa :=
  (sSeq (sAsg (aCall sp_task_names (aCons (vVar 0) aNil)) (hName 1))
    (sSeq (sAsg (vLc (jSq (vVar 1)) (hName 5) aYes (aLst aNil) [5]) (hName 2))
    (sSeq (sForV (jEnu (aCons (aOp ixV (vVar 0) (aC (.int 1))) aNil)) (kTup 2 (kCons (hName 3) (kCons (hName 4) kNil)))
      (sDrop (vML nApp (aOp ixV (vVar 2) (vML nIdx (vVar 1) (aCons (aOp ixV (vVar 4) (aC (.int 0))) aNil))) (aCons (vVar 3) aNil))))
    (sRet (vVar 2)))))
theorem rd_leading_from (as : List AV) (AH : AHp) (Q : AV → AHp → Prop) (h : sp_leading_from as AH Q) : t_leading_from { nx := fun _ A2 => Cv Q .non A2, rt := Cv Q } (startA ["graph", "names", "lists", "number", "line", "_"] as) AH := by
  obtain ⟨G, rfl, ok, q⟩ := h
  have h1 := ok.len.1
  have h2 := ok.len.2
  have h3 := ok.lin
  refine ⟨G.tasks, _, rfl, h2, ?_⟩
  rw [nms_eq]
  have go : ∀ e : AEnv, e = [some (encG G), some (.fl ((nms G.tasks).map .str)), none, none, none, none] → (sSeq (sAsg (vLc (jSq (vVar 1)) (hName 5) aYes (aLst aNil) [5]) (hName 2))
    (sSeq (sForV (jEnu (aCons (aOp ixV (vVar 0) (aC (.int 1))) aNil)) (kTup 2 (kCons (hName 3) (kCons (hName 4) kNil)))
      (sDrop (vML nApp (aOp ixV (vVar 2) (vML nIdx (vVar 1) (aCons (aOp ixV (vVar 4) (aC (.int 0))) aNil))) (aCons (vVar 3) aNil))))
    (sRet (vVar 2)))) { nx := fun _ A2 => Cv Q .non A2, rt := Cv Q } e AH := by
    intro e he
    subst he
    walk_at "dx"
    refine lc_lists (keep := free) (by rw [List.length_map]; unfold nms; rw [List.length_map]; exact sz8 (by omega)) (fun _ => trivial) (fun x hx B T F hT => ⟨by simp, fun p hp => hT p hp⟩) fun ps B hB => ?_
    have en : (List.map AV.str (nms G.tasks)).length = G.tasks.length := by rw [List.length_map]; unfold nms; rw [List.length_map]
    rw [en] at hB
    walk_at "dx"
    refine rFor_inv (fun i e A => (∃ x y, e = [some (encG G), some (.fl ((nms G.tasks).map .str)), some (.fl (ps.map .ref)), x, y, none]) ∧ LHp AH A ps (leadV Ln.o (G.lines.take i) G.tasks.length)) ⟨⟨_, _, rfl⟩, ?_⟩ ?_ ?_
    · have : leadV Ln.o (G.lines.take 0) G.tasks.length = List.replicate G.tasks.length [] := by
        unfold leadV leadBy
        simp only [List.take_zero, List.zipIdx_nil, List.filter_nil, List.map_nil]
        exact List.ext_getElem? fun i => by
          rw [List.getElem?_map, List.getElem?_replicate]
          by_cases h : i < G.tasks.length
          · rw [List.getElem?_range h, if_pos h]; rfl
          · rw [List.getElem?_eq_none (by rw [List.length_range]; omega), if_neg h]; rfl
      rw [this]; exact hB
    · rintro i x e A hx ⟨⟨u, v, rfl⟩, hA⟩ N hN
      obtain ⟨l, hl, rfl⟩ : ∃ l, G.lines[i]? = some l ∧ AV.tup [.int (i : Nat), encL G.tasks l] = x := by
        unfold enumA at hx
        rw [List.getElem?_map, List.getElem?_zipIdx, List.getElem?_map] at hx
        cases e : G.lines[i]? with
        | none => rw [e] at hx; simp at hx
        | some l => rw [e] at hx; simp at hx; exact ⟨l, rfl, hx⟩
      have lo := ok.ls l (List.mem_of_getElem? hl)
      obtain ⟨a, ha, _⟩ := lo.ot
      have ht : l.o < G.tasks.length := (List.getElem?_eq_some_iff.mp ha).1
      have hi : i < G.lines.length := (List.getElem?_eq_some_iff.mp hl).1
      obtain ⟨p, hp⟩ : ∃ p, ps[l.o]? = some p := ⟨_, List.getElem?_eq_getElem (by rw [hA.len, leadV_len]; exact ht)⟩
      walk_at "dx"
      refine nIdx_at (j := l.o) rfl (at_strs (i := l.o) ok.nd (nms_get ht)) ?_
      walk_at "dx"
      rw [gt_ls (x := .fl (ps.map .ref)) (v := .ref p) rfl (by simp) (by simp [hp])]
      have hap := hA.at_ l.o p _ hp (leadV_get ht)
      walk_at "dx"
      rw [ls_ref hap]
      walk_at "dx"
      refine nApp_lst hap ?_ ?_
      · rw [List.length_map]
        refine Nat.lt_of_le_of_lt (leadBy_len ..) ?_
        rw [List.length_take]
        exact Nat.lt_of_lt_of_le (by omega : _ < 1000) (by decide)
      · refine ⟨trivial, hN _ _ ⟨⟨_, _, rfl⟩, ?_⟩⟩
        have et : G.lines.take (i + 1) = G.lines.take i ++ [l] := by rw [List.take_succ, hl]; rfl
        rw [et, leadV_snoc ht, List.length_take, Nat.min_eq_left (by omega)]
        exact lhp_set hA hp
    · rintro e A ⟨⟨u, v, rfl⟩, hA⟩
      unfold enumA at hA
      rw [List.length_map, List.length_zipIdx, List.length_map, List.take_length] at hA
      walk_at "dx"
      exact ⟨_, AH, hA.sub, .fl (lhp_conv hA), q⟩
  exact go _ rfl
end D

set_option Elab.async false
set_option linter.all false
set_option maxRecDepth 100000
namespace D
open PySem PySem.Spec L2
local macro_rules | `(tactic| walk_at "dx") => `(tactic| conv => whnf)
/-! ### counting -/
def counted (ns : List Int) (c : Int) : Int := c / (ns.length : Int) * ns.sum + (ns.take (c % (ns.length : Int)).toNat).sum
theorem take_sum_succ (ns : List Int) (r : Nat) : (ns.take (r + 1)).sum = (ns.take r).sum + ns.getD r 0 := by
  rw [List.take_succ, List.sum_append, List.getD_eq_getElem?_getD]
  cases ns[r]? <;> simp
theorem counted_mul {ns : List Int} (h : ns ≠ []) (k : Int) : counted ns (k * (ns.length : Int)) = k * ns.sum := by
  have hl : (ns.length : Int) ≠ 0 := by have := List.length_pos_iff.mpr h; omega
  unfold counted
  rw [Int.mul_ediv_cancel _ hl, Int.mul_emod_left]
  simp
theorem counted_succ {ns : List Int} (h : ns ≠ []) (c : Int) : counted ns (c + 1) = counted ns c + ns.getD (c % (ns.length : Int)).toNat 0 := by
  have hl : 0 < (ns.length : Int) := by have := List.length_pos_iff.mpr h; omega
  have e0 := Int.emod_nonneg c (by omega : (ns.length : Int) ≠ 0)
  have e1 := Int.emod_lt_of_pos c hl
  have e2 := Int.mul_ediv_add_emod c (ns.length : Int)
  generalize hq : c / (ns.length : Int) = q at *
  generalize hr : c % (ns.length : Int) = r at *
  have ec : c = (ns.length : Int) * q + r := e2.symm
  unfold counted
  rw [hq, hr]
  by_cases hb : r + 1 < (ns.length : Int)
  · have d1 : (c + 1) / (ns.length : Int) = q := by
      rw [ec, Int.add_assoc, Int.mul_add_ediv_left _ _ (by omega : (ns.length : Int) ≠ 0), Int.ediv_eq_zero_of_lt (by omega) hb]; omega
    have d2 : (c + 1) % (ns.length : Int) = r + 1 := by
      rw [ec, Int.add_assoc, Int.mul_add_emod_self_left, Int.emod_eq_of_lt (by omega) hb]
    rw [d1, d2, show (r + 1).toNat = r.toNat + 1 by omega, take_sum_succ]
    omega
  · have er : r + 1 = (ns.length : Int) := by omega
    have e3 : c + 1 = (q + 1) * (ns.length : Int) := by rw [ec, Int.add_mul, Int.one_mul, Int.mul_comm q]; omega
    have d1 : (c + 1) / (ns.length : Int) = q + 1 := by rw [e3, Int.mul_ediv_cancel _ (by omega)]
    have d2 : (c + 1) % (ns.length : Int) = 0 := by rw [e3, Int.mul_emod_left]
    rw [d1, d2]
    have := take_sum_succ ns r.toNat
    rw [List.take_of_length_le (by omega)] at this
    rw [this, Int.add_mul, Int.one_mul]
    simp
    omega
theorem counted_zero (ns : List Int) : counted ns 0 = 0 := by unfold counted; simp
structure NumsOk (ns : List Int) : Prop where
  ne : ns ≠ []
  len : ns.length ≤ 1000
  all : ∀ d ∈ ns, (0 : Int) ≤ d ∧ d ≤ 9
  pos : 0 < ns.sum
theorem getD_nn {ns : List Int} (h : ∀ d ∈ ns, (0 : Int) ≤ d ∧ d ≤ 9) (i : Nat) : 0 ≤ ns.getD i 0 ∧ ns.getD i 0 ≤ 9 := by
  rw [List.getD_eq_getElem?_getD]
  cases e : ns[i]? with
  | none => simp
  | some d => exact h d (List.mem_of_getElem? e)
theorem sum_le {ns : List Int} (h : ∀ d ∈ ns, (0 : Int) ≤ d ∧ d ≤ 9) : 0 ≤ ns.sum ∧ ns.sum ≤ 9 * ns.length := by
  induction ns with
  | nil => simp
  | cons x r ih =>
    have h1 := h x (List.mem_cons_self ..)
    have h2 := ih fun d m => h d (List.mem_cons_of_mem _ m)
    rw [List.sum_cons, List.length_cons]
    omega
theorem counted_mono {ns : List Int} (ok : NumsOk ns) : ∀ (n : Nat) (c : Int), counted ns c ≤ counted ns (c + n)
  | 0, c => by simp
  | n + 1, c => by
    have h1 := counted_mono ok n c
    have h2 := counted_succ ok.ne (c + n)
    have h3 := (getD_nn ok.all ((c + n) % (ns.length : Int)).toNat).1
    rw [show c + ((n + 1 : Nat) : Int) = c + n + 1 by omega, h2]
    omega
theorem counted_le {ns : List Int} (ok : NumsOk ns) {c d : Int} (h : c ≤ d) : counted ns c ≤ counted ns d := by
  have := counted_mono ok (d - c).toNat c
  rw [show c + ((d - c).toNat : Int) = d by omega] at this
  exact this
theorem counted_ub {ns : List Int} (ok : NumsOk ns) : ∀ n : Nat, 0 ≤ counted ns n ∧ counted ns n ≤ 9 * n
  | 0 => by rw [show ((0 : Nat) : Int) = 0 from rfl, counted_zero]; omega
  | n + 1 => by
    have h1 := counted_ub ok n
    have h2 := counted_succ ok.ne n
    have h3 := getD_nn ok.all ((n : Int) % (ns.length : Int)).toNat
    rw [show ((n + 1 : Nat) : Int) = (n : Int) + 1 by omega, h2]
    omega
theorem LnOk.gok {T : List Task} {l : Ln} (ok : LnOk T l) (h : ∀ t ∈ T, TaskOk t) : NumsOk l.gs := ⟨fun e => by have := (ok.glen h).1; rw [e] at this; simp at this, by have := (ok.glen h).2; omega, ok.gs, ok.gp⟩
theorem LnOk.tok {T : List Task} {l : Ln} (ok : LnOk T l) (h : ∀ t ∈ T, TaskOk t) : NumsOk l.ts := ⟨fun e => by have := (ok.tlen h).1; rw [e] at this; simp at this, by have := (ok.tlen h).2; omega, ok.ts, ok.tp⟩
def sp_counted : Spa := fun as A Q => ∃ (ns : List Int) (c : Int), as = [.tup (ns.map .int), .int c] ∧ NumsOk ns ∧ Q (.int (counted ns c)) A
def t_counted : TSa :=
  (sSeq (sAsg (aCB bDivmod (aCons (vVar 1) (aCons (aCB vLen (aCons (vVar 0) aNil)) aNil))) (kTup 2 (kCons (hName 2) (kCons (hName 3) kNil))))
    (sRet (aOp addR (aOp mulT (vVar 2) (aCB vSum (aCons (vVar 0) aNil))) (aCB vSum (aCons (aSl slV (vVar 0) aNoPart (vPart (vVar 3))) aNil)))))
theorem rd_counted (as : List AV) (AH : AHp) (Q : AV → AHp → Prop) (h : sp_counted as AH Q) : t_counted { nx := fun _ A2 => Cv Q .non A2, rt := Cv Q } (startA ["numbers", "count", "whole", "rest"] as) AH := by
  obtain ⟨ns, c, rfl, ok, q⟩ := h
  have hl : 0 < (ns.length : Int) := by have := List.length_pos_iff.mpr ok.ne; omega
  have hl2 := ok.len
  have hs := sum_le ok.all
  refine ⟨by rw [List.length_map]; exact hl, by rw [List.length_map]; omega, ?_⟩
  rw [List.length_map]
  walk_at "dx"
  rw [aInts_map]
  refine ⟨.inl (.inr ⟨by omega, by omega⟩), ?_⟩
  walk_at "dx"
  rw [cut_to (Int.emod_nonneg _ (by omega)), ← List.map_take, aInts_map]
  exact Cv.of q
def IsLeast (ns : List Int) (w n : Int) : Prop := ∀ c : Int, n ≤ c ↔ w ≤ counted ns c
def sp_least_count : Spa := fun as A Q => ∃ (ns : List Int) (w : Int), as = [.tup (ns.map .int), .int w] ∧ NumsOk ns ∧ ∀ n, IsLeast ns w n → Q (.int n) A
def t_least_count : TSa :=
  (sSeq (sAsg (aCB vSum (aCons (vVar 0) aNil)) (hName 2))
    (sSeq (sAsg (aOp divR (aOp subR (vVar 1) (aC (.int 1))) (vVar 2)) (hName 3))
    (sSeq (sAsg (aOp mulT (vVar 3) (aCB vLen (aCons (vVar 0) aNil))) (hName 4))
    (sSeq (sAsg (aOp mulT (vVar 3) (vVar 2)) (hName 5))
    (sSeq (sWhile (vTest (aOp ltR (vVar 5) (vVar 1)))
      (sSeq (sAugV 5 (aOp ixV (vVar 0) (aOp modR (vVar 4) (aCB vLen (aCons (vVar 0) aNil)))) ipAdd)
      (sAugV 4 (aC (.int 1)) ipAdd)))
    (sRet (vVar 4)))))))
theorem rd_least_count (as : List AV) (AH : AHp) (Q : AV → AHp → Prop) (h : sp_least_count as AH Q) : t_least_count { nx := fun _ A2 => Cv Q .non A2, rt := Cv Q } (startA ["numbers", "wanted", "total", "whole", "count", "held"] as) AH := by
  obtain ⟨ns, w, rfl, ok, q⟩ := h
  have hl : 0 < (ns.length : Int) := by have := List.length_pos_iff.mpr ok.ne; omega
  have hl2 := ok.len
  have hs := sum_le ok.all
  have hp := ok.pos
  walk_at "dx"
  rw [aInts_map]
  refine ⟨hp, by omega, ?_⟩
  refine ⟨.inl (.inr ⟨by rw [List.length_map]; omega, by rw [List.length_map]; omega⟩), ?_⟩
  refine ⟨.inl (.inr ⟨by omega, by omega⟩), ?_⟩
  rw [List.length_map]
  generalize hwh : (w - 1) / ns.sum = wh
  have e1 : wh * ns.sum ≤ w - 1 := by rw [← hwh]; exact Int.ediv_mul_le _ (by omega)
  have e2 : w - 1 < (wh + 1) * ns.sum := by rw [← hwh]; exact Int.lt_ediv_add_one_mul_self _ hp
  refine ⟨fun m e A => ∃ count held : Int, e = [some (.tup (ns.map .int)), some (.int w), some (.int ns.sum), some (.int wh), some (.int count), some (.int held)] ∧ A = AH ∧ held = counted ns count ∧ (∀ c, c < count → counted ns c < w) ∧ count ≤ (wh + 1) * (ns.length : Int) ∧ m = ((wh + 1) * (ns.length : Int) - count).toNat,
    ⟨_, _, _, rfl, rfl, (counted_mul ok.ne wh).symm, fun c hc => ?_, ?_, rfl⟩, ?_⟩
  · have := counted_le ok (Int.le_of_lt hc)
    rw [counted_mul ok.ne] at this
    omega
  · rw [Int.add_mul]; omega
  · rintro m e A ⟨count, held, rfl, rfl, eh, hc, hle, rfl⟩
    walk_at "dx"
    by_cases hb : held < w
    · refine dT (by simp; exact hb) ?_
      have hcl : count < (wh + 1) * (ns.length : Int) := by
        apply Int.lt_of_not_ge
        intro hge
        have := counted_le ok hge
        rw [counted_mul ok.ne] at this
        omega
      walk_at "dx"
      refine ⟨by rw [List.length_map]; exact hl, ?_⟩
      have hm0 := Int.emod_nonneg count (by omega : (ns.length : Int) ≠ 0)
      have hm1 := Int.emod_lt_of_pos count hl
      rw [List.length_map]
      refine ixV_of (v := .int (ns.getD (count % (ns.length : Int)).toNat 0)) (gt_tup hm0 ?_) ?_
      · rw [List.getElem?_map, List.getElem?_eq_getElem (by omega), List.getD_eq_getElem?_getD, List.getElem?_eq_getElem (by omega)]; rfl
      · refine ⟨((wh + 1) * (ns.length : Int) - (count + 1)).toNat, by omega, count + 1, held + ns.getD (count % (ns.length : Int)).toNat 0, rfl, rfl, by rw [counted_succ ok.ne, eh], fun c h => ?_, by omega, rfl⟩
        by_cases h2 : c < count
        · exact hc c h2
        · have : c = count := by omega
          subst this
          rw [← eh]; exact hb
    · refine dF (by simp; omega) ?_
      walk_at "dx"
      refine Cv.of (q count fun c => ⟨fun h => ?_, fun h => ?_⟩)
      · have := counted_le ok h
        omega
      · refine Int.not_lt.mp fun h2 => ?_
        have := hc c h2
        omega
end D

set_option Elab.async false
set_option linter.all false
set_option maxRecDepth 100000
namespace D
open PySem PySem.Spec L2
local macro_rules | `(tactic| walk_at "dx") => `(tactic| conv => whnf)
def lnAt (G : Gr) (j : Nat) : Ln := G.lines.getD j ⟨0, 0, [], [], 0⟩
theorem lnAt_get {G : Gr} {j : Nat} (h : j < G.lines.length) : G.lines[j]? = some (lnAt G j) := by
  unfold lnAt
  rw [List.getD_eq_getElem?_getD, List.getElem?_eq_getElem h]; rfl
theorem lnAt_of {G : Gr} {j : Nat} {l : Ln} (h : G.lines[j]? = some l) : lnAt G j = l := by
  unfold lnAt
  rw [List.getD_eq_getElem?_getD, h]; rfl
theorem ints_get {ns : List Int} {i : Nat} (h : i < ns.length) : (ns.map AV.int)[i]? = some (.int (ns.getD i 0)) := by
  rw [List.getElem?_map, List.getElem?_eq_getElem h, List.getD_eq_getElem?_getD, List.getElem?_eq_getElem h]; rfl
def NeedIs (l : Ln) (f v : Int) : Prop := 0 ≤ v ∧ ∀ c, 0 ≤ c → (v ≤ c ↔ counted l.ts (f + 1) - l.st ≤ counted l.gs c)
def sp_need_told : Spa := fun as A Q => ∃ (T : List Task) (l : Ln) (f : Int), as = [encL T l, .int f] ∧ LnOk T l ∧ (∀ t ∈ T, TaskOk t) ∧ ∀ v, NeedIs l f v → Q (.int v) A
def t_need_told : TSa :=
  (sRet (aCB bMax (aCons (aC (.int 0)) (aCons (aCall sp_least_count (aCons (aOp ixV (vVar 0) (aC (.int 2))) (aCons (aOp subR (aCall sp_counted (aCons (aOp ixV (vVar 0) (aC (.int 3))) (aCons (aOp addR (vVar 1) (aC (.int 1))) aNil))) (aOp ixV (vVar 0) (aC (.int 4)))) aNil))) aNil))))
theorem rd_need_told (as : List AV) (AH : AHp) (Q : AV → AHp → Prop) (h : sp_need_told as AH Q) : t_need_told { nx := fun _ A2 => Cv Q .non A2, rt := Cv Q } (startA ["line", "firing"] as) AH := by
  obtain ⟨T, l, f, rfl, ok, hT, q⟩ := h
  refine ⟨l.ts, f + 1, rfl, ok.tok hT, ?_⟩
  refine ⟨l.gs, _, rfl, ok.gok hT, fun n hn => ?_⟩
  refine Cv.of (q _ ⟨by omega, fun c hc => ?_⟩)
  rw [← hn c]
  omega
def sp_look_at_line : Spa := fun as A Q => ∃ (G : Gr) (i : Int), as = [encG G, .int i] ∧ GoodG G ∧ 0 ≤ i ∧ i < G.lines.length ∧ Q .non A
def t_look_at_line : TSa :=
  (sSeq (sDrop (aCall sp_look_at_graph (aCons (vVar 0) aNil)))
    (sDrop (aCall sp_need_number (aCons (vVar 1) (aCons (aC (.int 0)) (aCons (aOp subR (aCB vLen (aCons (aOp ixV (vVar 0) (aC (.int 1))) aNil)) (aC (.int 1))) aNil))))))
theorem rd_look_at_line (as : List AV) (AH : AHp) (Q : AV → AHp → Prop) (h : sp_look_at_line as AH Q) : t_look_at_line { nx := fun _ A2 => Cv Q .non A2, rt := Cv Q } (startA ["graph", "line"] as) AH := by
  obtain ⟨G, i, rfl, ok, h0, h1, q⟩ := h
  exact ⟨G, rfl, ok, ⟨i, 0, _, rfl, ⟨h0, by rw [List.length_map]; omega⟩, Cv.of q⟩⟩
def sp_need : Spa := fun as A Q => ∃ (G : Gr) (j : Nat) (f : Int), as = [encG G, .int (j : Nat), .int f] ∧ GoodG G ∧ j < G.lines.length ∧ 0 ≤ f ∧ f ≤ 100000 ∧ ∀ v, NeedIs (lnAt G j) f v → Q (.int v) A
def t_need : TSa :=
  (sSeq (sDrop (aCall sp_look_at_line (aCons (vVar 0) (aCons (vVar 1) aNil))))
    (sSeq (sDrop (aCall sp_need_number (aCons (vVar 2) (aCons (aC (.int 0)) (aCons (aC (.int 100000)) aNil)))))
    (sRet (aCall sp_need_told (aCons (aOp ixV (aOp ixV (vVar 0) (aC (.int 1))) (vVar 1)) (aCons (vVar 2) aNil))))))
theorem rd_need (as : List AV) (AH : AHp) (Q : AV → AHp → Prop) (h : sp_need as AH Q) : t_need { nx := fun _ A2 => Cv Q .non A2, rt := Cv Q } (startA ["graph", "line", "firing"] as) AH := by
  obtain ⟨G, j, f, rfl, ok, hj, h0, h1, q⟩ := h
  refine ⟨G, _, rfl, ok, by omega, by omega, ?_⟩
  refine ⟨f, 0, 100000, rfl, ⟨h0, h1⟩, ?_⟩
  walk_at "dx"
  rw [gt_tup (v := encL G.tasks (lnAt G j)) (by omega) (by rw [List.getElem?_map, Int.toNat_natCast, lnAt_get hj]; rfl)]
  exact ⟨G.tasks, lnAt G j, f, rfl, ok.ls _ (List.mem_of_getElem? (lnAt_get hj)), ok.ts, fun v hv => Cv.of (q v hv)⟩
def takeAt (G : Gr) (S : Sta) (k j : Nat) : Int := (lnAt G j).ts.getD (S.ph.getD k 0).toNat 0
def giveAt (G : Gr) (S : Sta) (k j : Nat) : Int := (lnAt G j).gs.getD (S.ph.getD k 0).toNat 0
theorem leadBy_mem {f : Ln → Nat} {ls : List Ln} {k j : Nat} : j ∈ leadBy f ls k ↔ ∃ l, ls[j]? = some l ∧ f l = k := by
  unfold leadBy
  rw [List.mem_map]
  constructor
  · rintro ⟨⟨l, i⟩, hm, rfl⟩
    rw [List.mem_filter] at hm
    exact ⟨l, List.mem_zipIdx_iff_getElem?.mp hm.1, by simpa using hm.2⟩
  · rintro ⟨l, hl, hk⟩
    exact ⟨(l, j), List.mem_filter.mpr ⟨List.mem_zipIdx_iff_getElem?.mpr hl, by simpa using hk⟩, rfl⟩
theorem GoodS.phk {G : Gr} {S : Sta} (so : GoodS G S) {k : Nat} {a : Task} (h : G.tasks[k]? = some a) : k < S.ph.length ∧ 0 ≤ S.ph.getD k 0 ∧ S.ph.getD k 0 < (a.ds.length : Nat) := by
  have hk := (List.getElem?_eq_some_iff.mp h).1
  have hl : k < S.ph.length := by rw [so.pl]; exact hk
  have e : S.ph.getD k 0 = S.ph[k] := by rw [List.getD_eq_getElem?_getD, List.getElem?_eq_getElem hl]; rfl
  have m : (S.ph[k], a) ∈ S.ph.zip G.tasks := by
    refine List.mem_of_getElem? (i := k) ?_
    rw [List.getElem?_zip_eq_some]
    exact ⟨List.getElem?_eq_getElem hl, h⟩
  rw [e]
  exact ⟨hl, (so.pb _ (List.getElem_mem hl)).1, so.pp _ m⟩
theorem take_len {G : Gr} {S : Sta} (ok : GoodG G) (so : GoodS G S) {k j : Nat} (h : j ∈ leadBy Ln.t G.lines k) : j < G.lines.length ∧ k < S.ph.length ∧ 0 ≤ S.ph.getD k 0 ∧ S.ph.getD k 0 < ((lnAt G j).ts.length : Nat) := by
  obtain ⟨l, hl, rfl⟩ := leadBy_mem.mp h
  obtain ⟨a, ha, hb⟩ := (ok.ls l (List.mem_of_getElem? hl)).tt
  have := so.phk ha
  rw [lnAt_of hl, hb]
  exact ⟨(List.getElem?_eq_some_iff.mp hl).1, this⟩
theorem give_len {G : Gr} {S : Sta} (ok : GoodG G) (so : GoodS G S) {k j : Nat} (h : j ∈ leadBy Ln.o G.lines k) : j < G.lines.length ∧ k < S.ph.length ∧ 0 ≤ S.ph.getD k 0 ∧ S.ph.getD k 0 < ((lnAt G j).gs.length : Nat) := by
  obtain ⟨l, hl, rfl⟩ := leadBy_mem.mp h
  obtain ⟨a, ha, hb⟩ := (ok.ls l (List.mem_of_getElem? hl)).ot
  have := so.phk ha
  rw [lnAt_of hl, hb]
  exact ⟨(List.getElem?_eq_some_iff.mp hl).1, this⟩
def readyK (G : Gr) (S : Sta) (k : Nat) : Bool := (leadBy Ln.t G.lines k).all fun j => decide (takeAt G S k j ≤ S.st.getD j 0)
def sp_is_ready : Spa := fun as A Q => ∃ (G : Gr) (S : Sta) (k : Nat), as = [encG G, encS S, .int (k : Nat), .fl ((leadBy Ln.t G.lines k).map fun (j : Nat) => .int (j : Nat))] ∧ GoodG G ∧ GoodS G S ∧ k < G.tasks.length ∧ Q (.bl (readyK G S k)) A
theorem all_bl {α : Type} {xs : List α} {f : α → Bool} {Q : AV → AHp → Prop} {A : AHp} (q : Q (.bl (xs.all f)) A) : vAll [.fl (xs.map fun x => .bl (f x))] A Q := by
  have e : (match aBls (xs.map fun x => AV.bl (f x)) with | some bs => Q (.bl (bs.all fun b => b)) A | none => False) := by
    rw [aBls_map]
    show Q (.bl ((xs.map f).all fun b => b)) A
    rw [List.all_map]
    exact q
  unfold vAll
  exact e
def t_is_ready : TSa :=
  (sSeq (sAsg (aOp ixV (aOp ixV (vVar 1) (aC (.int 0))) (vVar 2)) (hName 4))
    (sRet (aCB vAll (aCons (vLc (jSq (vVar 3)) (hName 5) aYes (aOp geR (aOp ixV (aOp ixV (vVar 1) (aC (.int 1))) (vVar 5)) (aOp ixV (aOp ixV (aOp ixV (aOp ixV (vVar 0) (aC (.int 1))) (vVar 5)) (aC (.int 3))) (vVar 4))) [5]) aNil))))
theorem rd_is_ready (as : List AV) (AH : AHp) (Q : AV → AHp → Prop) (h : sp_is_ready as AH Q) : t_is_ready { nx := fun _ A2 => Cv Q .non A2, rt := Cv Q } (startA ["graph", "state", "number", "lines", "phase", "at"] as) AH := by
  obtain ⟨G, S, k, rfl, ok, so, hk, q⟩ := h
  have hkl : k < S.ph.length := by rw [so.pl]; exact hk
  refine ixV_of (v := .int (S.ph.getD k 0)) (gt_tup (by omega) (by rw [Int.toNat_natCast]; exact ints_get hkl)) ?_
  walk_at "dx"
  refine lc_map (keep := free) (fun j : Nat => .int (j : Nat)) (fun j => .bl (decide (takeAt G S k j ≤ S.st.getD j 0))) (sz8 (Nat.le_trans (leadBy_len ..) (by have := ok.lin; omega))) keep_free (fun j hj B _ T F hT => ?_) ?_
  · obtain ⟨h1, h2, h3, h4⟩ := take_len ok so hj
    walk_at "dx"
    rw [gt_tup (v := .int (S.st.getD j 0)) (by omega) (by rw [Int.toNat_natCast]; exact ints_get (by rw [so.sl]; exact h1))]
    walk_at "dx"
    rw [gt_tup (v := encL G.tasks (lnAt G j)) (by omega) (by rw [List.getElem?_map, Int.toNat_natCast, lnAt_get h1]; rfl)]
    walk_at "dx"
    rw [gt_tup (v := .int (takeAt G S k j)) h3 (ints_get (by omega))]
    exact hT
  · walk_at "dx"
    exact all_bl (Cv.of q)
end D

set_option Elab.async false
set_option linter.all false
set_option maxRecDepth 100000
namespace D
open PySem PySem.Spec L2
local macro_rules | `(tactic| walk_at "dx") => `(tactic| conv => whnf)
def readies (G : Gr) (S : Sta) : List Str := ((List.range G.tasks.length).filter (readyK G S)).map (nmAt G.tasks)
def sp_can_fire : Spa := fun as A Q => ∃ (G : Gr) (S : Sta), as = [encG G, encS S] ∧ GoodG G ∧ GoodS G S ∧ Q (.tup ((readies G S).map .str)) A
theorem enum_get {xs : List AV} {i : Nat} {x : AV} (h : (enumA xs)[i]? = some x) : ∃ y, xs[i]? = some y ∧ x = .tup [.int (i : Nat), y] := by
  unfold enumA at h
  rw [List.getElem?_map, List.getElem?_zipIdx] at h
  cases e : xs[i]? with
  | none => rw [e] at h; simp at h
  | some l => rw [e] at h; simp at h; exact ⟨l, rfl, h.symm⟩
theorem enum_len {xs : List AV} : (enumA xs).length = xs.length := by unfold enumA; rw [List.length_map, List.length_zipIdx]
theorem range_succ_filter (f : Nat → Bool) (i : Nat) : (List.range (i + 1)).filter f = (List.range i).filter f ++ (if f i = true then [i] else []) := by
  rw [List.range_succ, List.filter_append]
  congr 1
  by_cases h : f i = true
  · rw [if_pos h]; simp [h]
  · rw [if_neg h]; simp [h]
theorem task_get {G : Gr} {k : Nat} (h : k < G.tasks.length) : ∃ a, G.tasks[k]? = some a ∧ nmAt G.tasks k = a.nm := ⟨_, List.getElem?_eq_getElem h, nmAt_of (List.getElem?_eq_getElem h)⟩
def t_can_fire : TSa :=
  (sSeq (sDrop (aCall sp_look_at_graph (aCons (vVar 0) aNil)))
    (sSeq (sDrop (aCall sp_look_at_state (aCons (vVar 0) (aCons (vVar 1) aNil))))
    (sSeq (sAsg (aLst aNil) (hName 2))
    (sSeq (sForV (jEnu (aCons (aCall sp_leading_to (aCons (vVar 0) aNil)) aNil)) (kTup 2 (kCons (hName 3) (kCons (hName 4) kNil)))
      (sIf (vTru (aCall sp_is_ready (aCons (vVar 0) (aCons (vVar 1) (aCons (vVar 3) (aCons (vVar 4) aNil))))))
        (sDrop (vML nApp (vVar 2) (aCons (aOp ixV (aOp ixV (aOp ixV (vVar 0) (aC (.int 0))) (vVar 3)) (aC (.int 0))) aNil)))
        sNext))
    (sRet (aCB vTuple (aCons (vVar 2) aNil)))))))
theorem rd_can_fire (as : List AV) (AH : AHp) (Q : AV → AHp → Prop) (h : sp_can_fire as AH Q) : t_can_fire { nx := fun _ A2 => Cv Q .non A2, rt := Cv Q } (startA ["graph", "state", "ready", "number", "lines"] as) AH := by
  obtain ⟨G, S, rfl, ok, so, q⟩ := h
  have h2 := ok.len.2
  refine ⟨G, rfl, ok, ?_⟩
  refine ⟨G, S, rfl, ok, so, ?_⟩
  walk_at "dx"
  refine ⟨by simp, fun p hp => ?_⟩
  refine ⟨G, rfl, ok, ?_⟩
  walk_at "dx"
  refine rFor_inv (fun i e A => (∃ x y, e = [some (encG G), some (encS S), some (.ref p), x, y]) ∧ A = updA AH p (.lst ((((List.range i).filter (readyK G S)).map (nmAt G.tasks)).map .str))) ⟨⟨_, _, rfl⟩, rfl⟩ ?_ ?_
  · rintro i x e A hx ⟨⟨u, v, rfl⟩, rfl⟩ N hN
    obtain ⟨y, hy, rfl⟩ := enum_get hx
    have hi : i < G.tasks.length := by
      have := (List.getElem?_eq_some_iff.mp hy).1
      rw [List.length_map, leadV_len] at this
      exact this
    rw [List.getElem?_map, leadV_get hi] at hy
    cases hy
    refine ⟨G, S, i, rfl, ok, so, hi, ?_⟩
    obtain ⟨a, ha, hn⟩ := task_get hi
    by_cases hr : readyK G S i = true
    · rw [hr]
      walk_at "dx"
      rw [ls_ref updA_same]
      walk_at "dx"
      rw [gt_tup (v := encT a) (by omega) (by rw [List.getElem?_map, Int.toNat_natCast, ha]; rfl)]
      walk_at "dx"
      refine nApp_lst updA_same ?_ ⟨trivial, hN _ _ ⟨⟨_, _, rfl⟩, ?_⟩⟩
      · rw [List.length_map, List.length_map]
        refine Nat.lt_of_le_of_lt (List.length_filter_le ..) ?_
        rw [List.length_range]
        exact Nat.lt_of_lt_of_le (by omega : _ < 1000) (by decide)
      · rw [updA_upd, range_succ_filter, if_pos hr, List.map_append, List.map_append, ← hn]; rfl
    · rw [Bool.not_eq_true] at hr
      rw [hr]
      refine ⟨trivial, hN _ _ ⟨⟨_, _, rfl⟩, ?_⟩⟩
      rw [range_succ_filter, hr, if_neg (by decide), List.append_nil]
  · rintro e A ⟨⟨u, v, rfl⟩, rfl⟩
    rw [enum_len, List.length_map, leadV_len]
    walk_at "dx"
    have e1 : sqOf (updA AH p (.lst ((((List.range G.tasks.length).filter (readyK G S)).map (nmAt G.tasks)).map AV.str))) (.ref p) = some ((((List.range G.tasks.length).filter (readyK G S)).map (nmAt G.tasks)).map AV.str) := sqOf_ref updA_same
    rw [e1]
    exact Cv.drop (SubA.new hp) q
/-! ### a firing -/
def subAll (f : Nat → Int) (js : List Nat) (st : List Int) : List Int := js.foldl (fun s j => s.set j (s.getD j 0 + f j)) st
theorem subAll_snoc {f : Nat → Int} {js : List Nat} {j : Nat} {st : List Int} : subAll f (js ++ [j]) st = (subAll f js st).set j ((subAll f js st).getD j 0 + f j) := by
  unfold subAll
  rw [List.foldl_append]; rfl
theorem subAll_len {f : Nat → Int} : ∀ {js : List Nat} {st : List Int}, (subAll f js st).length = st.length
  | [], _ => rfl
  | j :: js, st => by
    have := subAll_len (f := f) (js := js) (st := st.set j (st.getD j 0 + f j))
    rw [List.length_set] at this
    exact this
def fireS (G : Gr) (S : Sta) (k : Nat) : Sta where
  ph := S.ph.set k ((S.ph.getD k 0 + 1) % (((G.tasks.getD k ⟨⟨#[]⟩, []⟩).ds.length : Nat) : Int))
  st := subAll (giveAt G S k) (leadBy Ln.o G.lines k) (subAll (fun j => -takeAt G S k j) (leadBy Ln.t G.lines k) S.st)
abbrev jInts (js : List Nat) : List AV := js.map fun (j : Nat) => .int (j : Nat)
def sp_fire : Spa := fun as A Q => ∃ (G : Gr) (S : Sta) (k : Nat) (p q : Addr), as = [encG G, .ref p, .ref q, .int (k : Nat), .fl (jInts (leadBy Ln.t G.lines k)), .fl (jInts (leadBy Ln.o G.lines k))] ∧ GoodG G ∧ GoodS G S ∧ k < G.tasks.length ∧ readyK G S k = true ∧
  p ≠ q ∧ A p = some (.lst (S.ph.map .int)) ∧ A q = some (.lst (S.st.map .int)) ∧ Q (.bl true) (updA (updA A q (.lst ((fireS G S k).st.map .int))) p (.lst ((fireS G S k).ph.map .int)))
theorem jInts_get {js : List Nat} {i : Nat} {x : AV} (h : (jInts js)[i]? = some x) : ∃ j, js[i]? = some j ∧ x = .int (j : Nat) := by
  unfold jInts at h
  rw [List.getElem?_map] at h
  obtain ⟨j, h1, h2⟩ := Option.map_eq_some_iff.mp h
  exact ⟨j, h1, h2.symm⟩
theorem take_succ_of {α : Type} {xs : List α} {i : Nat} {x : α} (h : xs[i]? = some x) : xs.take (i + 1) = xs.take i ++ [x] := by rw [List.take_succ, h]; rfl
theorem set_ints {ns : List Int} {j : Nat} {v : Int} : (ns.map AV.int).set j (.int v) = (ns.set j v).map AV.int := by rw [List.map_set]
def t_fire : TSa :=
  (sSeq (sAsg (aOp ixV (vVar 1) (vVar 3)) (hName 6))
    (sSeq (sForV (jSq (vVar 4)) (hName 7)
      (sIf (vTest (aOp ltR (aOp ixV (vVar 2) (vVar 7)) (aOp ixV (aOp ixV (aOp ixV (aOp ixV (vVar 0) (aC (.int 1))) (vVar 7)) (aC (.int 3))) (vVar 6))))
        (sRet (aC (.bl false)))
        sNext))
    (sSeq (sForV (jSq (vVar 4)) (hName 7)
      (sAugS (vVar 2) (vVar 7) (aOp ixV (aOp ixV (aOp ixV (aOp ixV (vVar 0) (aC (.int 1))) (vVar 7)) (aC (.int 3))) (vVar 6)) getI ipSub setI))
    (sSeq (sForV (jSq (vVar 5)) (hName 7)
      (sAugS (vVar 2) (vVar 7) (aOp ixV (aOp ixV (aOp ixV (aOp ixV (vVar 0) (aC (.int 1))) (vVar 7)) (aC (.int 2))) (vVar 6)) getI ipAdd setI))
    (sSeq (sAsg (aOp modR (aOp addR (vVar 6) (aC (.int 1))) (aCB vLen (aCons (aOp ixV (aOp ixV (aOp ixV (vVar 0) (aC (.int 0))) (vVar 3)) (aC (.int 1))) aNil))) (hSub (vVar 1) (vVar 3) setI))
    (sRet (aC (.bl true))))))))
theorem rd_fire (as : List AV) (AH : AHp) (Q : AV → AHp → Prop) (h : sp_fire as AH Q) : t_fire { nx := fun _ A2 => Cv Q .non A2, rt := Cv Q } (startA ["graph", "phases", "stocks", "number", "coming", "going", "phase", "at"] as) AH := by
  obtain ⟨G, S, k, p, r, rfl, ok, so, hk, hr, ne, hp, hq, q⟩ := h
  obtain ⟨a, ha, hn⟩ := task_get hk
  obtain ⟨hkl, hph0, hph1⟩ := so.phk ha
  walk_at "dx"
  rw [gt_ls (v := .int (S.ph.getD k 0)) (ls_ref hp) (by omega) (by rw [Int.toNat_natCast]; exact ints_get hkl)]
  walk_at "dx"
  refine rFor_inv (fun i e A => (∃ x, e = [some (encG G), some (.ref p), some (.ref r), some (.int (k : Nat)), some (.fl (jInts (leadBy Ln.t G.lines k))), some (.fl (jInts (leadBy Ln.o G.lines k))), some (.int (S.ph.getD k 0)), x]) ∧ A = AH) ⟨⟨_, rfl⟩, rfl⟩ ?_ ?_
  · rintro i x e A hx ⟨⟨u, rfl⟩, rfl⟩ N hN
    obtain ⟨j, hj, rfl⟩ := jInts_get hx
    have hm := List.mem_of_getElem? hj
    obtain ⟨h1, h2, h3, h4⟩ := take_len ok so hm
    have hle := of_decide_eq_true (List.all_eq_true.mp hr j hm)
    walk_at "dx"
    rw [gt_ls (v := .int (S.st.getD j 0)) (ls_ref hq) (by omega) (by rw [Int.toNat_natCast]; exact ints_get (by rw [so.sl]; exact h1))]
    walk_at "dx"
    rw [gt_tup (v := encL G.tasks (lnAt G j)) (by omega) (by rw [List.getElem?_map, Int.toNat_natCast, lnAt_get h1]; rfl)]
    walk_at "dx"
    rw [gt_tup (v := .int (takeAt G S k j)) h3 (ints_get (by omega))]
    walk_at "dx"
    refine dF (by simp; exact hle) ?_
    exact ⟨trivial, hN _ _ ⟨⟨_, rfl⟩, rfl⟩⟩
  rintro e A ⟨⟨u, rfl⟩, rfl⟩
  walk_at "dx"
  refine rFor_inv (fun i e B => (∃ x, e = [some (encG G), some (.ref p), some (.ref r), some (.int (k : Nat)), some (.fl (jInts (leadBy Ln.t G.lines k))), some (.fl (jInts (leadBy Ln.o G.lines k))), some (.int (S.ph.getD k 0)), x]) ∧ B = updA A r (.lst ((subAll (fun j => -takeAt G S k j) ((leadBy Ln.t G.lines k).take i) S.st).map .int))) ⟨⟨_, rfl⟩, (updA_self hq).symm⟩ ?_ ?_
  · rintro i x e B hx ⟨⟨u, rfl⟩, rfl⟩ N hN
    obtain ⟨j, hj, rfl⟩ := jInts_get hx
    have hm := List.mem_of_getElem? hj
    obtain ⟨h1, h2, h3, h4⟩ := take_len ok so hm
    have hjl : j < (subAll (fun j => -takeAt G S k j) ((leadBy Ln.t G.lines k).take i) S.st).length := by rw [subAll_len, so.sl]; exact h1
    walk_at "dx"
    refine getI_lst updA_same (by omega) (by rw [Int.toNat_natCast]; exact ints_get hjl) ?_
    walk_at "dx"
    rw [gt_tup (v := encL G.tasks (lnAt G j)) (by omega) (by rw [List.getElem?_map, Int.toNat_natCast, lnAt_get h1]; rfl)]
    walk_at "dx"
    rw [gt_tup (v := .int (takeAt G S k j)) h3 (ints_get (by omega))]
    walk_at "dx"
    refine setI_lst updA_same (by omega) (by rw [List.length_map]; omega) ⟨trivial, hN _ _ ⟨⟨_, rfl⟩, ?_⟩⟩
    rw [updA_upd, take_succ_of hj, subAll_snoc, Int.toNat_natCast, set_ints]; rfl
  rintro e B ⟨⟨u, rfl⟩, rfl⟩
  rw [show ((jInts (leadBy Ln.t G.lines k)).length) = (leadBy Ln.t G.lines k).length by rw [List.length_map], List.take_length]
  generalize hS1 : subAll (fun j => -takeAt G S k j) (leadBy Ln.t G.lines k) S.st = S1
  have l1 : S1.length = G.lines.length := by rw [← hS1, subAll_len, so.sl]
  walk_at "dx"
  refine rFor_inv (fun i e B => (∃ x, e = [some (encG G), some (.ref p), some (.ref r), some (.int (k : Nat)), some (.fl (jInts (leadBy Ln.t G.lines k))), some (.fl (jInts (leadBy Ln.o G.lines k))), some (.int (S.ph.getD k 0)), x]) ∧ B = updA A r (.lst ((subAll (giveAt G S k) ((leadBy Ln.o G.lines k).take i) S1).map .int))) ⟨⟨_, rfl⟩, rfl⟩ ?_ ?_
  · rintro i x e B hx ⟨⟨u, rfl⟩, rfl⟩ N hN
    obtain ⟨j, hj, rfl⟩ := jInts_get hx
    have hm := List.mem_of_getElem? hj
    obtain ⟨h1, h2, h3, h4⟩ := give_len ok so hm
    have hjl : j < (subAll (giveAt G S k) ((leadBy Ln.o G.lines k).take i) S1).length := by rw [subAll_len, l1]; exact h1
    walk_at "dx"
    refine getI_lst updA_same (by omega) (by rw [Int.toNat_natCast]; exact ints_get hjl) ?_
    walk_at "dx"
    rw [gt_tup (v := encL G.tasks (lnAt G j)) (by omega) (by rw [List.getElem?_map, Int.toNat_natCast, lnAt_get h1]; rfl)]
    walk_at "dx"
    rw [gt_tup (v := .int (giveAt G S k j)) h3 (ints_get (by omega))]
    walk_at "dx"
    refine setI_lst updA_same (by omega) (by rw [List.length_map]; omega) ⟨trivial, hN _ _ ⟨⟨_, rfl⟩, ?_⟩⟩
    rw [updA_upd, take_succ_of hj, subAll_snoc, Int.toNat_natCast, set_ints]
  rintro e B ⟨⟨u, rfl⟩, rfl⟩
  rw [show ((jInts (leadBy Ln.o G.lines k)).length) = (leadBy Ln.o G.lines k).length by rw [List.length_map], List.take_length]
  walk_at "dx"
  rw [gt_tup (v := encT a) (by omega) (by rw [List.getElem?_map, Int.toNat_natCast, ha]; rfl)]
  have hlen := (ok.ts a (List.mem_of_getElem? ha)).len
  refine ⟨by rw [List.length_map]; omega, ?_⟩
  walk_at "dx"
  refine setI_lst (by rw [updA_ne ne]; exact hp) (by omega) (by rw [List.length_map]; omega) ?_
  rw [Int.toNat_natCast, set_ints, List.length_map]
  have eph : (fireS G S k).ph = S.ph.set k ((S.ph.getD k 0 + 1) % ((a.ds.length : Nat) : Int)) := by
    unfold fireS
    rw [List.getD_eq_getElem?_getD (l := G.tasks), ha]; rfl
  have est : (fireS G S k).st = subAll (giveAt G S k) (leadBy Ln.o G.lines k) S1 := by rw [← hS1]; rfl
  rw [eph, est] at q
  exact Cv.of q
def sp_fired : Spa := fun as A Q => ∃ (G : Gr) (S : Sta) (k : Nat), as = [encG G, encS S, .str (nmAt G.tasks k)] ∧ GoodG G ∧ GoodS G S ∧ k < G.tasks.length ∧ readyK G S k = true ∧ Q (encS (fireS G S k)) A
def t_fired : TSa :=
  (sSeq (sDrop (aCall sp_look_at_graph (aCons (vVar 0) aNil)))
    (sSeq (sDrop (aCall sp_look_at_state (aCons (vVar 0) (aCons (vVar 1) aNil))))
    (sSeq (sAsg (aCall sp_task_number (aCons (vVar 0) (aCons (vVar 2) aNil))) (hName 3))
    (sSeq (sParV 4 5 (aCons (aCB vListM (aCons (aOp ixV (vVar 1) (aC (.int 0))) aNil)) (aCons (aCB vListM (aCons (aOp ixV (vVar 1) (aC (.int 1))) aNil)) aNil)))
    (sSeq (sIf (aNotT (vTru (aCall sp_fire (aCons (vVar 0) (aCons (vVar 4) (aCons (vVar 5) (aCons (vVar 3) (aCons (aOp ixV (aCall sp_leading_to (aCons (vVar 0) aNil)) (vVar 3)) (aCons (aOp ixV (aCall sp_leading_from (aCons (vVar 0) aNil)) (vVar 3)) aNil)))))))))
      sNever
      sNext)
    (sRet (aTup (aCons (aCB vTuple (aCons (vVar 4) aNil)) (aCons (aCB vTuple (aCons (vVar 5) aNil)) aNil)))))))))
theorem rd_fired (as : List AV) (AH : AHp) (Q : AV → AHp → Prop) (h : sp_fired as AH Q) : t_fired { nx := fun _ A2 => Cv Q .non A2, rt := Cv Q } (startA ["graph", "state", "name", "number", "phases", "stocks"] as) AH := by
  obtain ⟨G, S, k, rfl, ok, so, hk, hr, q⟩ := h
  have h2 := ok.len.2
  refine ⟨G, rfl, ok, ?_⟩
  refine ⟨G, S, rfl, ok, so, ?_⟩
  refine ⟨G.tasks, _, k, rfl, h2, hk, ok.nd, ?_⟩
  walk_at "dx"
  intro p hp
  walk_at "dx"
  intro r hr2
  walk_at "dx"
  refine ⟨G, rfl, ok, ?_⟩
  walk_at "dx"
  rw [gt_ls (x := .fl ((leadV Ln.t G.lines G.tasks.length).map .fl)) (v := .fl (jInts (leadBy Ln.t G.lines k))) (k := (k : Int)) rfl (by omega) (by rw [Int.toNat_natCast, List.getElem?_map, leadV_get hk]; rfl)]
  refine ⟨G, rfl, ok, ?_⟩
  walk_at "dx"
  rw [gt_ls (x := .fl ((leadV Ln.o G.lines G.tasks.length).map .fl)) (v := .fl (jInts (leadBy Ln.o G.lines k))) (k := (k : Int)) rfl (by omega) (by rw [Int.toNat_natCast, List.getElem?_map, leadV_get hk]; rfl)]
  have ne : p ≠ r := fun e => by subst e; rw [updA_same] at hr2; cases hr2
  have hr3 : AH r = none := by rw [updA_ne ne.symm] at hr2; exact hr2
  refine ⟨G, S, k, p, r, rfl, ok, so, hk, hr, ne, by rw [updA_ne ne]; exact updA_same, updA_same, ?_⟩
  walk_at "dx"
  rw [sqOf_ref (xs := (fireS G S k).ph.map .int) updA_same]
  walk_at "dx"
  rw [sqOf_ref (xs := (fireS G S k).st.map .int) (by rw [updA_ne ne.symm]; exact updA_same)]
  refine ⟨by simp; decide, ?_⟩
  refine Cv.drop (fun a o e => ?_) q
  have n1 : a ≠ p := fun e2 => by subst e2; rw [hp] at e; cases e
  have n2 : a ≠ r := fun e2 => by subst e2; rw [hr3] at e; cases e
  rw [updA_ne n1, updA_ne n2, updA_ne n2, updA_ne n1]
  exact e
end D

set_option Elab.async false
set_option linter.all false
set_option maxRecDepth 100000
namespace D
open PySem PySem.Spec L2
local macro_rules | `(tactic| walk_at "dx") => `(tactic| conv => whnf)
abbrev mKvs (cells : List Int) (b : Addr) (t : Nat) : List (Key × AV) := [(.inr "cells", .fl (cells.map .int)), (.inr "left", .ref b), (.inr "at", .int (t : Nat))]
structure MHb (a b : Addr) (cells left : List Int) (t : Nat) (R A : AHp) : Prop where
  ha : A a = some (.dct (mKvs cells b t))
  hb : A b = some (.lst (left.map .int))
  ne : a ≠ b
  ra : R a = none
  rb : R b = none
  sub : SubA R A
def MH (a : Addr) (n : Nat) (R A : AHp) : Prop := ∃ (b : Addr) (cells left : List Int) (t : Nat), MHb a b cells left t R A ∧ t ≤ n
section
variable {a p : Addr} {n m : Nat} {R A : AHp} {o o' : AO}
theorem MH.mono (h : MH a n R A) (k : n ≤ m) : MH a m R A := by obtain ⟨b, c, l, t, h1, h2⟩ := h; exact ⟨b, c, l, t, h1, by omega⟩
theorem MH.non (h : MH a n R A) (hp : A p = none) : R p = none := by obtain ⟨b, c, l, t, h1, h2⟩ := h; exact h1.sub.noneA hp
theorem MH.get (h : MH a n R A) (hp : R p = some o) : A p = some o := by obtain ⟨b, c, l, t, h1, h2⟩ := h; exact h1.sub p o hp
theorem MH.new (h : MH a n R A) (hp : A p = none) : MH a n (updA R p o) (updA A p o) := by
  obtain ⟨b, c, l, t, h1, h2⟩ := h
  have n1 : a ≠ p := fun e => by subst e; rw [h1.ha] at hp; cases hp
  have n2 : b ≠ p := fun e => by subst e; rw [h1.hb] at hp; cases hp
  refine ⟨b, c, l, t, ⟨by rw [updA_ne n1]; exact h1.ha, by rw [updA_ne n2]; exact h1.hb, h1.ne, by rw [updA_ne n1]; exact h1.ra, by rw [updA_ne n2]; exact h1.rb, fun x o2 e => ?_⟩, h2⟩
  by_cases hx : x = p
  · subst hx; rw [updA_same] at e ⊢; exact e
  · rw [updA_ne hx] at e ⊢; exact h1.sub _ _ e
theorem MH.put (h : MH a n R A) (hp : R p = some o') : MH a n (updA R p o) (updA A p o) := by
  obtain ⟨b, c, l, t, h1, h2⟩ := h
  have n1 : a ≠ p := fun e => by subst e; rw [h1.ra] at hp; cases hp
  have n2 : b ≠ p := fun e => by subst e; rw [h1.rb] at hp; cases hp
  refine ⟨b, c, l, t, ⟨by rw [updA_ne n1]; exact h1.ha, by rw [updA_ne n2]; exact h1.hb, h1.ne, by rw [updA_ne n1]; exact h1.ra, by rw [updA_ne n2]; exact h1.rb, fun x o2 e => ?_⟩, h2⟩
  by_cases hx : x = p
  · subst hx; rw [updA_same] at e ⊢; exact e
  · rw [updA_ne hx] at e ⊢; exact h1.sub _ _ e
theorem MH.put2 (h : MH a n (updA R p o') A) : MH a n (updA R p o) (updA A p o) := by
  have := h.put (o := o) updA_same
  rw [updA_upd] at this
  exact this
theorem MH.forget (h : MH a n (updA R p o) A) (hp : R p = none) : MH a n R A := by
  obtain ⟨b, c, l, t, h1, h2⟩ := h
  have n1 : a ≠ p := fun e => by have := h1.ra; rw [e, updA_same] at this; cases this
  have n2 : b ≠ p := fun e => by have := h1.rb; rw [e, updA_same] at this; cases this
  exact ⟨b, c, l, t, ⟨h1.ha, h1.hb, h1.ne, by have := h1.ra; rw [updA_ne n1] at this; exact this, by have := h1.rb; rw [updA_ne n2] at this; exact this, (SubA.new hp).trans h1.sub⟩, h2⟩
theorem MH.del (h : MH a n (updA R p o) A) (hp : R p = none) : MH a n R (delA A p) := by
  obtain ⟨b, c, l, t, h1, h2⟩ := h
  have n1 : a ≠ p := fun e => by have := h1.ra; rw [e, updA_same] at this; cases this
  have n2 : b ≠ p := fun e => by have := h1.rb; rw [e, updA_same] at this; cases this
  refine ⟨b, c, l, t, ⟨by unfold delA; rw [if_neg n1]; exact h1.ha, by unfold delA; rw [if_neg n2]; exact h1.hb, h1.ne, by have := h1.ra; rw [updA_ne n1] at this; exact this, by have := h1.rb; rw [updA_ne n2] at this; exact this, fun x o2 e => ?_⟩, h2⟩
  have n3 : x ≠ p := fun q => by subst q; rw [hp] at e; cases e
  unfold delA
  rw [if_neg n3]
  exact h1.sub x o2 (by rw [updA_ne n3]; exact e)
end
theorem key_cl : decide ((Sum.inr ("cells" : Str) : Key) = Sum.inr ("left" : Str)) = false := by decide +kernel
theorem key_ca : decide ((Sum.inr ("cells" : Str) : Key) = Sum.inr ("at" : Str)) = false := by decide +kernel
theorem key_la : decide ((Sum.inr ("left" : Str) : Key) = Sum.inr ("at" : Str)) = false := by decide +kernel
theorem m_cells {cells : List Int} {b : Addr} {t : Nat} : valA (mKvs cells b t) (.inr "cells") = some (.fl (cells.map .int)) := by
  unfold valA mKvs
  rw [List.find?_cons]
  simp
theorem m_left {cells : List Int} {b : Addr} {t : Nat} : valA (mKvs cells b t) (.inr "left") = some (.ref b) := by
  unfold valA mKvs
  simp only [List.find?_cons, key_cl]
  simp
theorem m_at {cells : List Int} {b : Addr} {t : Nat} : valA (mKvs cells b t) (.inr "at") = some (.int (t : Nat)) := by
  unfold valA mKvs
  simp only [List.find?_cons, key_ca, key_la]
  simp
theorem m_put_left {cells : List Int} {b c : Addr} {t : Nat} : putA (mKvs cells b t) (.inr "left") (.ref c) = mKvs cells c t := by
  have h := of_decide_eq_false key_cl
  have h2 : ¬ (Sum.inr ("at" : Str) : Key) = Sum.inr ("left" : Str) := fun e => of_decide_eq_false key_la e.symm
  unfold putA mKvs
  simp only [List.any_cons, List.map_cons, List.map_nil, if_neg h, if_neg h2]
  simp
theorem m_put_at {cells : List Int} {b : Addr} {t : Nat} {i : Int} : putA (mKvs cells b t) (.inr "at") (.int i) = [(.inr "cells", .fl (cells.map .int)), (.inr "left", .ref b), (.inr "at", .int i)] := by
  have h := of_decide_eq_false key_ca
  have h2 := of_decide_eq_false key_la
  unfold putA mKvs
  simp only [List.any_cons, List.map_cons, List.map_nil, if_neg h, if_neg h2]
  simp
def sp__law_next : Spa := fun as A Q => ∃ (a : Addr) (n : Nat) (R : AHp) (many : Int), as = [.ref a, .int many] ∧ MH a n R A ∧ n < 2 ^ 40 ∧ 0 < many ∧ many < 1073741824 ∧ ∀ v A', 0 ≤ v → v < many → MH a (n + 1) R A' → Q (.int v) A'
def t__law_next : TSa :=
  (sSeq (sWhile (aAndT (vTest (aOp neW (aOp ixV (vVar 0) (aC (.str "left"))) (aFl aNil))) (vTest (aOp eqW (aOp ixV (aOp ixV (vVar 0) (aC (.str "left"))) (aC (.int 0))) (aC (.int 0)))))
      (sAsg (aSl slVM (aOp ixV (vVar 0) (aC (.str "left"))) (vPart (aC (.int 1))) aNoPart) (hSub (vVar 0) (aC (.str "left")) setI)))
    (sSeq (sIf (vTest (aOp neW (aOp ixV (vVar 0) (aC (.str "left"))) (aFl aNil)))
      (sSeq (sAsg (aOp ixV (aOp ixV (vVar 0) (aC (.str "left"))) (aC (.int 0))) (hName 2))
      (sSeq (sAsg (aOp divR (vVar 2) (vVar 1)) (hSub (aOp ixV (vVar 0) (aC (.str "left"))) (aC (.int 0)) setI))
      (sRet (aOp modR (aCB tInt (aCons (vVar 2) aNil)) (vVar 1)))))
      sNext)
    (sSeq (sParV 3 4 (aCons (aOp ixV (vVar 0) (aC (.str "at"))) (aCons (aOp ixV (vVar 0) (aC (.str "cells"))) aNil)))
    (sSeq (sAsg (aOp addR (vVar 3) (aC (.int 1))) (hSub (vVar 0) (aC (.str "at")) setI))
    (sSeq (sAsg (aIf (vTest (aOp neW (vVar 4) (aFl aNil))) (aOp ixV (vVar 4) (aOp modR (vVar 3) (aCB vLen (aCons (vVar 4) aNil)))) (aC (.int 0))) (hName 5))
    (sSeq (sAsg (aOp mulT (aOp modR (aCB tInt (aCons (vVar 5) aNil)) (aC (.int 2147483629))) (aOp addR (aOp mulT (aC (.int 2)) (vVar 3)) (aC (.int 3)))) (hName 6))
    (sSeq (sAsg (aOp modR (aOp addR (aOp addR (aOp addR (vVar 6) (aOp mulT (aOp mulT (aC (.int 7919)) (vVar 3)) (vVar 3))) (aOp mulT (aC (.int 104729)) (vVar 3))) (aC (.int 31))) (aC (.int 2147483647))) (hName 6))
    (sRet (aOp modR (aOp divR (aOp modR (aOp mulT (aOp modR (aOp mulT (vVar 6) (vVar 6)) (aC (.int 2147483629))) (aC (.int 48271))) (aC (.int 2147483647))) (aC (.int 13))) (vVar 1))))))))))
theorem rd__law_next (as : List AV) (AH : AHp) (Q : AV → AHp → Prop) (h : sp__law_next as AH Q) : t__law_next { nx := fun _ A2 => Cv Q .non A2, rt := Cv Q } (startA ["m", "many", "rest", "at", "cells", "cell", "blend"] as) AH := by
  obtain ⟨a, n, R, many, rfl, ⟨b, cells, left, t, hM, ht⟩, hn, hm0, hm1, q⟩ := h
  walk_at "dx"
  refine ⟨fun k e A => e = [some (.ref a), some (.int many), none, none, none, none, none] ∧ ∃ b left, MHb a b cells left t R A ∧ k = left.length, ⟨_, rfl, b, left, hM, rfl⟩, ?_⟩
  clear hM left b
  rintro k e A ⟨rfl, b, left, hM, rfl⟩
  walk_at "dx"
  rw [gt_dct hM.ha m_left]
  walk_at "dx"
  refine ⟨Nat.zero_le _, ?_⟩
  walk_at "dx"
  refine ei_nil (xs := left.map .int) (OkAs.ints left) (.inl ⟨ls_ref hM.hb, rfl⟩) ?_
  have after : ∀ left, MHb a b cells left t R A → (left = [] ∨ ∃ x r, left = x :: r ∧ x ≠ 0) → (sSeq (sIf (vTest (aOp neW (aOp ixV (vVar 0) (aC (.str "left"))) (aFl aNil)))
      (sSeq (sAsg (aOp ixV (aOp ixV (vVar 0) (aC (.str "left"))) (aC (.int 0))) (hName 2))
      (sSeq (sAsg (aOp divR (vVar 2) (vVar 1)) (hSub (aOp ixV (vVar 0) (aC (.str "left"))) (aC (.int 0)) setI))
      (sRet (aOp modR (aCB tInt (aCons (vVar 2) aNil)) (vVar 1)))))
      sNext)
    (sSeq (sParV 3 4 (aCons (aOp ixV (vVar 0) (aC (.str "at"))) (aCons (aOp ixV (vVar 0) (aC (.str "cells"))) aNil)))
    (sSeq (sAsg (aOp addR (vVar 3) (aC (.int 1))) (hSub (vVar 0) (aC (.str "at")) setI))
    (sSeq (sAsg (aIf (vTest (aOp neW (vVar 4) (aFl aNil))) (aOp ixV (vVar 4) (aOp modR (vVar 3) (aCB vLen (aCons (vVar 4) aNil)))) (aC (.int 0))) (hName 5))
    (sSeq (sAsg (aOp mulT (aOp modR (aCB tInt (aCons (vVar 5) aNil)) (aC (.int 2147483629))) (aOp addR (aOp mulT (aC (.int 2)) (vVar 3)) (aC (.int 3)))) (hName 6))
    (sSeq (sAsg (aOp modR (aOp addR (aOp addR (aOp addR (vVar 6) (aOp mulT (aOp mulT (aC (.int 7919)) (vVar 3)) (vVar 3))) (aOp mulT (aC (.int 104729)) (vVar 3))) (aC (.int 31))) (aC (.int 2147483647))) (hName 6))
    (sRet (aOp modR (aOp divR (aOp modR (aOp mulT (aOp modR (aOp mulT (vVar 6) (vVar 6)) (aC (.int 2147483629))) (aC (.int 48271))) (aC (.int 2147483647))) (aC (.int 13))) (vVar 1)))))))))
          { nx := fun _ A2 => Cv Q .non A2, rt := Cv Q } [some (.ref a), some (.int many), none, none, none, none, none] A := by
    intro left hM hx
    walk_at "dx"
    rw [gt_dct hM.ha m_left]
    walk_at "dx"
    refine ⟨Nat.zero_le _, ?_⟩
    walk_at "dx"
    refine ei_nil (xs := left.map .int) (OkAs.ints left) (.inl ⟨ls_ref hM.hb, rfl⟩) ?_
    rcases hx with rfl | ⟨x, r, rfl, hx⟩
    · walk_at "dx"
      rw [gt_dct hM.ha m_at]
      walk_at "dx"
      rw [gt_dct hM.ha m_cells]
      walk_at "dx"
      refine setI_dct hM.ha rfl (by simp; decide) ?_
      rw [m_put_at]
      have hM2 : MHb a b cells [] (t + 1) R (updA A a (.dct (mKvs cells b (t + 1)))) := ⟨updA_same, by rw [updA_ne hM.ne.symm]; exact hM.hb, hM.ne, hM.ra, hM.rb, fun x o e => by
        have n1 : x ≠ a := fun q => by subst q; rw [hM.ra] at e; cases e
        rw [updA_ne n1]; exact hM.sub x o e⟩
      rw [show [((Sum.inr ("cells" : Str) : Key), AV.fl (cells.map .int)), (Sum.inr ("left" : Str), AV.ref b), (Sum.inr ("at" : Str), AV.int ((t : Int) + 1))] = mKvs cells b (t + 1) from by unfold mKvs; rw [Int.natCast_add]; rfl]
      generalize hAA : updA A a (.dct (mKvs cells b (t + 1))) = A2 at hM2 ⊢
      walk_at "dx"
      refine ⟨Nat.zero_le _, ?_⟩
      walk_at "dx"
      refine ei_nil (xs := cells.map .int) (OkAs.ints cells) (.inl ⟨rfl, rfl⟩) ?_
      have fin : ∀ cell : Int, (sSeq (sAsg (aOp mulT (aOp modR (aCB tInt (aCons (vVar 5) aNil)) (aC (.int 2147483629))) (aOp addR (aOp mulT (aC (.int 2)) (vVar 3)) (aC (.int 3)))) (hName 6))
    (sSeq (sAsg (aOp modR (aOp addR (aOp addR (aOp addR (vVar 6) (aOp mulT (aOp mulT (aC (.int 7919)) (vVar 3)) (vVar 3))) (aOp mulT (aC (.int 104729)) (vVar 3))) (aC (.int 31))) (aC (.int 2147483647))) (hName 6))
    (sRet (aOp modR (aOp divR (aOp modR (aOp mulT (aOp modR (aOp mulT (vVar 6) (vVar 6)) (aC (.int 2147483629))) (aC (.int 48271))) (aC (.int 2147483647))) (aC (.int 13))) (vVar 1)))))
          { nx := fun _ A2 => Cv Q .non A2, rt := Cv Q } [some (.ref a), some (.int many), none, some (.int (t : Nat)), some (.fl (cells.map .int)), some (.int cell), none] A2 := by
        intro cell
        refine ⟨by decide, ?_⟩
        have c1 := Int.emod_nonneg cell (by decide : (2147483629 : Int) ≠ 0)
        have c2 := Int.emod_lt_of_pos cell (by decide : (0 : Int) < 2147483629)
        refine ⟨.inl (.inl ⟨by decide, by decide⟩), ?_⟩
        refine ⟨.inl (.inl ⟨by omega, by omega⟩), ?_⟩
        generalize hv1 : cell % 2147483629 * (2 * ((t : Nat) : Int) + 3) = v1
        walk_at "dx"
        refine ⟨.inl (.inl ⟨by decide, by decide⟩), ?_⟩
        refine ⟨.inl (.inr ⟨by omega, by omega⟩), ?_⟩
        refine ⟨.inl (.inl ⟨by decide, by decide⟩), ?_⟩
        refine ⟨by decide, ?_⟩
        generalize hv2 : v1 + 7919 * ((t : Nat) : Int) * ((t : Nat) : Int) + 104729 * ((t : Nat) : Int) + 31 = v2
        have d1 := Int.emod_nonneg v2 (by decide : (2147483647 : Int) ≠ 0)
        have d2 := Int.emod_lt_of_pos v2 (by decide : (0 : Int) < 2147483647)
        generalize hv3 : v2 % 2147483647 = v3 at d1 d2 ⊢
        walk_at "dx"
        refine ⟨.inl (.inl ⟨by omega, by omega⟩), ?_⟩
        refine ⟨by decide, ?_⟩
        refine ⟨.inl (.inr ⟨by decide, by decide⟩), ?_⟩
        refine ⟨by decide, ?_⟩
        refine ⟨by decide, by decide, ?_⟩
        refine ⟨hm0, ?_⟩
        exact Cv.of (q _ _ (Int.emod_nonneg _ (by omega)) (Int.emod_lt_of_pos _ hm0) ⟨b, cells, [], t + 1, hM2, by omega⟩)
      cases cells with
      | nil => exact fin 0
      | cons c0 cr =>
        have hcl : 0 < (((c0 :: cr).length : Nat) : Int) := by simp
        walk_at "dx"
        refine ⟨by rw [List.length_map]; exact hcl, ?_⟩
        rw [List.length_map]
        have m0 := Int.emod_nonneg (t : Int) (by omega : (((c0 :: cr).length : Nat) : Int) ≠ 0)
        have m1 := Int.emod_lt_of_pos (t : Int) hcl
        refine ixV_of (gt_ls (x := .fl ((c0 :: cr).map .int)) rfl m0 (ints_get (by omega))) ?_
        exact fin _
    · walk_at "dx"
      rw [gt_dct hM.ha m_left]
      walk_at "dx"
      rw [gt_ls (v := .int x) (ls_ref hM.hb) (Int.le_refl 0) rfl]
      refine ⟨hm0, hm1, ?_⟩
      walk_at "dx"
      rw [gt_dct hM.ha m_left]
      walk_at "dx"
      refine setI_lst hM.hb (Int.le_refl 0) (by simp) ?_
      refine ⟨hm0, ?_⟩
      refine Cv.of (q _ _ (Int.emod_nonneg _ (by omega)) (Int.emod_lt_of_pos _ hm0) ⟨b, cells, x / many :: r, t, ⟨by rw [updA_ne hM.ne]; exact hM.ha, updA_same, hM.ne, hM.ra, hM.rb, fun y o e => ?_⟩, by omega⟩)
      have n1 : y ≠ b := fun q => by subst q; rw [hM.rb] at e; cases e
      rw [updA_ne n1]; exact hM.sub y o e
  cases left with
  | nil => exact after [] hM (.inl rfl)
  | cons x r =>
    walk_at "dx"
    rw [gt_dct hM.ha m_left]
    walk_at "dx"
    rw [gt_ls (v := .int x) (ls_ref hM.hb) (Int.le_refl 0) rfl]
    walk_at "dx"
    by_cases hx : x = 0
    · refine dT (by simp; exact hx) ?_
      walk_at "dx"
      rw [gt_dct hM.ha m_left]
      walk_at "dx"
      rw [ls_ref hM.hb]
      intro p hp
      have np : p ≠ a := fun e => by subst e; rw [hM.ha] at hp; cases hp
      refine setI_dct (by rw [updA_ne np.symm]; exact hM.ha) rfl (by simp; decide) ?_
      rw [m_put_left]
      refine ⟨r.length, by simp, rfl, p, r, ⟨updA_same, ?_, np.symm, hM.ra, hM.sub.noneA hp, fun y o e => ?_⟩, rfl⟩
      · rw [updA_ne np, updA_same, cut_from (by decide)]; rfl
      · have n1 : y ≠ a := fun q => by subst q; rw [hM.ra] at e; cases e
        have n2 : y ≠ p := fun q => by subst q; rw [hM.sub.noneA hp] at e; cases e
        rw [updA_ne n1, updA_ne n2]; exact hM.sub y o e
    · refine dF (by simp; exact hx) ?_
      exact after _ hM (.inr ⟨x, r, rfl, hx⟩)
end D

set_option Elab.async false
set_option linter.all false
set_option maxRecDepth 100000
namespace D
open PySem PySem.Spec L2
local macro_rules | `(tactic| walk_at "dx") => `(tactic| conv => whnf)
theorem lc_mh {keep : AHp → Prop} {g : TGa} {tt : TTa} {te : TEa} {env : AEnv} (c : Nat) (Good : Nat → AV → Prop) {items : List AV} {A : AHp} {Q : AV → AHp → Prop} {a : Addr} {n : Nat} {R : AHp} (hM : MH a n R A) (hlen : items.length ≤ 1000) (hk : ∀ B, keep B)
    (step : ∀ (i : Nat) x, items[i]? = some x → ∀ B R', MH a (n + c * i) R' B → ∀ (T : AV → AHp → Prop) (F : AHp → Prop), (∀ v B', Good i v → MH a (n + c * (i + 1)) R' B' → T v B') → g x env B fun e2 A2 => tt e2 A2 fun b A3 => if b = true then te e2 A3 T else F A3)
    (q : ∀ vs B, vs.length = items.length → (∀ (i : Nat) v, vs[i]? = some v → Good i v) → MH a (n + c * items.length) R B → Q (.fl vs) B) : lcT keep g tt te env items A Q := by
  unfold lcT
  intro D hD
  have hRD := hM.non hD
  refine ⟨hk _, rLc_inv (fun i acc B => MH a (n + c * i) (updA R D (.lst acc)) B ∧ acc.length = i ∧ ∀ (j : Nat) v, acc[j]? = some v → Good j v) ⟨hM.new hD, rfl, fun j v h => by simp at h⟩ (fun i acc B h => h.1.get updA_same) (fun i x acc B hx ⟨h1, h2, h3⟩ T F hT hF => ?_) (fun acc B ⟨h1, h2, h3⟩ => ?_)⟩
  · have hi : i < items.length := (List.getElem?_eq_some_iff.mp hx).1
    refine step i x hx B _ h1 T F fun v B' hv hB => hT v B' ⟨hB.get updA_same, by rw [h2]; exact Nat.lt_of_lt_of_le (by omega : i < 1000) (by decide), hk _, hB.put2, by rw [List.length_append, h2]; rfl, fun j w hj => ?_⟩
    by_cases hjl : j < acc.length
    · rw [List.getElem?_append_left hjl] at hj
      exact h3 j w hj
    · rw [List.getElem?_append_right (by omega)] at hj
      have : j - acc.length = 0 := by
        have := (List.getElem?_eq_some_iff.mp hj).1
        simp at this
        omega
      rw [this] at hj
      have e : j = i := by omega
      simp at hj
      rw [e, ← hj]
      exact hv
  · exact q acc _ h2 h3 (h1.del hRD)
def sp__law_of : Spa := fun as A Q => ∃ (a : Addr) (n : Nat) (R : AHp) (x : AV) (xs : List AV), as = [.ref a, x] ∧ (x = .fl xs ∨ x = .tup xs) ∧ xs ≠ [] ∧ xs.length ≤ 1000 ∧ MH a n R A ∧ n < 2 ^ 40 ∧ ∀ (i : Nat) v A', xs[i]? = some v → MH a (n + 1) R A' → Q v A'
def t__law_of : TSa :=
  (sRet (aOp ixV (vVar 1) (aCall sp__law_next (aCons (vVar 0) (aCons (aCB vLen (aCons (vVar 1) aNil)) aNil)))))
theorem rd__law_of (as : List AV) (AH : AHp) (Q : AV → AHp → Prop) (h : sp__law_of as AH Q) : t__law_of { nx := fun _ A2 => Cv Q .non A2, rt := Cv Q } (startA ["m", "some"] as) AH := by
  obtain ⟨a, n, R, x, xs, rfl, hx, hne, hl, hM, hn, q⟩ := h
  have h0 : 0 < xs.length := List.length_pos_iff.mpr hne
  rcases hx with rfl | rfl
  · refine ⟨a, n, R, _, rfl, hM, hn, by omega, by omega, fun v A' h1 h2 hM2 => ?_⟩
    refine ixV_of (gt_ls rfl h1 (List.getElem?_eq_getElem (by omega))) ?_
    exact Cv.of (q _ _ _ (List.getElem?_eq_getElem (by omega)) hM2)
  · refine ⟨a, n, R, _, rfl, hM, hn, by omega, by omega, fun v A' h1 h2 hM2 => ?_⟩
    refine ixV_of (gt_tup h1 (List.getElem?_eq_getElem (by omega))) ?_
    exact Cv.of (q _ _ _ (List.getElem?_eq_getElem (by omega)) hM2)
def sp__law_gcd : Spa := fun as A Q => ∃ x y : Int, as = [.int x, .int y] ∧ 0 ≤ x ∧ 0 ≤ y ∧ Q (.int ((Int.gcd x y : Nat) : Int)) A
def t__law_gcd : TSa :=
  (sSeq (sWhile (vTest (aOp neW (vVar 1) (aC (.int 0))))
      (sParV 0 1 (aCons (vVar 1) (aCons (aOp modR (aCB tInt (aCons (vVar 0) aNil)) (vVar 1)) aNil))))
    (sRet (vVar 0)))
theorem rd__law_gcd (as : List AV) (AH : AHp) (Q : AV → AHp → Prop) (h : sp__law_gcd as AH Q) : t__law_gcd { nx := fun _ A2 => Cv Q .non A2, rt := Cv Q } (startA ["one", "other"] as) AH := by
  obtain ⟨x, y, rfl, hx, hy, q⟩ := h
  refine ⟨fun m e A => ∃ u v : Int, e = [some (.int u), some (.int v)] ∧ A = AH ∧ 0 ≤ u ∧ 0 ≤ v ∧ Int.gcd u v = Int.gcd x y ∧ m = v.toNat, ⟨_, x, y, rfl, rfl, hx, hy, rfl, rfl⟩, ?_⟩
  rintro m e A ⟨u, v, rfl, rfl, hu, hv, hd, rfl⟩
  walk_at "dx"
  by_cases h : v = 0
  · refine dF (by simp; exact h) ?_
    subst h
    have e : ((Int.gcd x y : Nat) : Int) = u := by rw [← hd, Int.gcd_zero_right]; omega
    rw [e] at q
    exact Cv.of q
  · refine dT (by simp; exact h) ?_
    refine ⟨by omega, ?_⟩
    have m0 := Int.emod_nonneg u h
    have m1 := Int.emod_lt_of_pos u (by omega : 0 < v)
    refine ⟨(u % v).toNat, by omega, v, u % v, rfl, rfl, by omega, m0, ?_, rfl⟩
    have e := Int.mul_ediv_add_emod u v
    have e2 : u % v = u + v * (-(u / v)) := by rw [Int.mul_neg]; omega
    rw [e2, Int.gcd_add_mul_left_right, Int.gcd_comm, hd]
def sp__law_shared : Spa := fun as A Q => ∃ (a : Addr) (n : Nat) (R : AHp) (tot ph : Nat), as = [.ref a, .int (tot : Nat), .int (ph : Nat)] ∧ 1 ≤ ph ∧ ph ≤ 24 ∧ tot ≤ 9 * ph ∧ MH a n R A ∧ n < 2 ^ 30 ∧
  ∀ (rows : List Int) A', rows.length = ph → (∀ r ∈ rows, (0 : Int) ≤ r ∧ r ≤ 9) → rows.sum = tot → MH a (n + 1000) R A' → Q (.tup (rows.map .int)) A'
theorem sum_set {ns : List Int} : ∀ {i : Nat} {v : Int}, i < ns.length → (ns.set i v).sum = ns.sum - ns.getD i 0 + v := by
  induction ns with
  | nil => intro i v h; simp at h
  | cons x r ih =>
    intro i v h
    cases i with
    | zero => simp; omega
    | succ i =>
      have := ih (i := i) (v := v) (by simpa using h)
      rw [List.set_cons_succ, List.sum_cons, List.sum_cons, this]
      simp
      omega
theorem sum_lt {ns : List Int} : (∀ d ∈ ns, (0 : Int) ≤ d ∧ d ≤ 9) → ns.sum < 9 * ns.length → ∃ j, j < ns.length ∧ ns.getD j 0 ≠ 9 := by
  induction ns with
  | nil => intro _ h; simp at h
  | cons x r ih =>
    intro h hs
    rw [List.sum_cons, List.length_cons] at hs
    by_cases hx : x = 9
    · obtain ⟨j, h1, h2⟩ := ih (fun d m => h d (List.mem_cons_of_mem _ m)) (by omega)
      exact ⟨j + 1, by simpa using h1, by simpa using h2⟩
    · exact ⟨0, by simp, by simpa using hx⟩
theorem mem_set9 {ns : List Int} {i : Nat} {v : Int} (h : ∀ d ∈ ns, (0 : Int) ≤ d ∧ d ≤ 9) (hv : 0 ≤ v ∧ v ≤ 9) : ∀ d ∈ ns.set i v, (0 : Int) ≤ d ∧ d ≤ 9 := fun d m => by
  rcases List.mem_or_eq_of_mem_set m with m | rfl
  · exact h d m
  · exact hv
def t__law_shared : TSa :=
  (sSeq (sAsg (aOp mulM (aFl (aCons (aC (.int 0)) aNil)) (vVar 2)) (hName 3))
    (sSeq (sForV (jRg1 (aCons (vVar 1) aNil)) (hName 4)
      (sSeq (sAsg (aCall sp__law_next (aCons (vVar 0) (aCons (vVar 2) aNil))) (hName 5))
      (sSeq (sWhile (vTest (aOp eqW (aOp ixV (vVar 3) (vVar 5)) (aC (.int 9))))
        (sAsg (aOp modR (aCB tInt (aCons (aOp addR (vVar 5) (aC (.int 1))) aNil)) (vVar 2)) (hName 5)))
      (sAsg (aOp addR (aOp ixV (vVar 3) (vVar 5)) (aC (.int 1))) (hSub (vVar 3) (vVar 5) setI)))))
    (sRet (aCB vTuple (aCons (vVar 3) aNil)))))
theorem rd__law_shared (as : List AV) (AH : AHp) (Q : AV → AHp → Prop) (h : sp__law_shared as AH Q) : t__law_shared { nx := fun _ A2 => Cv Q .non A2, rt := Cv Q } (startA ["m", "total", "phases", "rows", "k", "at"] as) AH := by
  obtain ⟨a, n, R, tot, ph, rfl, h1, h2, h3, hM, hn, q⟩ := h
  refine ⟨by simp; decide, ?_⟩
  refine ⟨by omega, by omega, by simp; exact sz8 (by omega), fun p hp => ?_⟩
  have hRp := hM.non hp
  rw [flat_rep, Int.toNat_natCast]
  refine ⟨by omega, by omega, ?_⟩
  refine rFor_inv (fun i e A => (∃ x y, e = [some (.ref a), some (.int (tot : Nat)), some (.int (ph : Nat)), some (.ref p), x, y]) ∧ i ≤ tot ∧ ∃ rows : List Int, rows.length = ph ∧ (∀ r ∈ rows, (0 : Int) ≤ r ∧ r ≤ 9) ∧ rows.sum = i ∧ MH a (n + i) (updA R p (.lst (rows.map .int))) A) ⟨⟨_, _, rfl⟩, Nat.zero_le _, List.replicate ph 0, List.length_replicate .., fun r m => by rw [(List.mem_replicate.mp m).2]; decide, by simp, ?_⟩ ?_ ?_
  · rw [List.map_replicate]; exact hM.new hp
  · rintro i x e A hx ⟨⟨u, v, rfl⟩, hi, rows, hl, hb, hs, hA⟩ N hN
    have hit : i < tot := by
      have := (List.getElem?_eq_some_iff.mp hx).1
      unfold rng at this
      rw [List.length_map, List.length_range] at this
      omega
    refine ⟨a, n + i, _, (ph : Int), rfl, hA, by omega, by omega, by omega, fun v A' v0 v1 hA' => ?_⟩
    obtain ⟨j, hj, hj9⟩ := sum_lt hb (by rw [hs, hl]; omega)
    have hap := hA'.get updA_same
    refine ⟨fun m e B => B = A' ∧ ∃ w : Int, e = [some (.ref a), some (.int (tot : Nat)), some (.int (ph : Nat)), some (.ref p), some x, some (.int w)] ∧ 0 ≤ w ∧ w < ph ∧ m = (((j : Int) - w) % (ph : Int)).toNat, ⟨_, rfl, v, rfl, v0, v1, rfl⟩, ?_⟩
    rintro m e B ⟨rfl, w, rfl, w0, w1, rfl⟩
    walk_at "dx"
    rw [gt_ls (v := .int (rows.getD w.toNat 0)) (ls_ref hap) w0 (ints_get (by omega))]
    walk_at "dx"
    by_cases hw : rows.getD w.toNat 0 = 9
    · refine dT (by simp; simpa using hw) ?_
      refine ⟨by omega, ?_⟩
      have m0 := Int.emod_nonneg (w + 1) (by omega : (ph : Int) ≠ 0)
      have m1 := Int.emod_lt_of_pos (w + 1) (by omega : (0 : Int) < ph)
      have hne : (j : Int) ≠ w := fun e => hj9 (by rw [← e] at hw; simpa using hw)
      refine ⟨_, ?_, rfl, (w + 1) % (ph : Int), rfl, m0, m1, rfl⟩
      have e1 : ((j : Int) - (w + 1) % (ph : Int)) % (ph : Int) = ((j : Int) - w - 1) % (ph : Int) := by
        rw [Int.sub_emod, Int.emod_emod_of_dvd _ (Int.dvd_refl _), ← Int.sub_emod]
        congr 1; omega
      rw [e1]
      have p0 := Int.emod_nonneg ((j : Int) - w) (by omega : (ph : Int) ≠ 0)
      have p1 := Int.emod_lt_of_pos ((j : Int) - w) (by omega : (0 : Int) < ph)
      have pne : ((j : Int) - w) % (ph : Int) ≠ 0 := fun e => by
        by_cases c : w ≤ (j : Int)
        · rw [Int.emod_eq_of_lt (by omega) (by omega)] at e
          omega
        · have e2 : ((j : Int) - w) % (ph : Int) = (j : Int) - w + ph := by
            rw [← Int.add_emod_right, Int.emod_eq_of_lt (by omega) (by omega)]
          omega
      have e3 : ((j : Int) - w - 1) % (ph : Int) = ((j : Int) - w) % (ph : Int) - 1 := by
        rw [← Int.emod_sub_emod, Int.emod_eq_of_lt (by omega) (by omega)]
      rw [e3]
      omega
    · refine dF (by simp; simpa using hw) ?_
      walk_at "dx"
      rw [gt_ls (v := .int (rows.getD w.toNat 0)) (ls_ref hap) w0 (ints_get (by omega))]
      walk_at "dx"
      refine setI_lst hap w0 (by rw [List.length_map]; omega) ⟨trivial, hN _ _ ⟨⟨_, _, rfl⟩, hit, rows.set w.toNat (rows.getD w.toNat 0 + 1), by rw [List.length_set]; exact hl, mem_set9 hb ?_, ?_, ?_⟩⟩
      · have := getD_nn hb w.toNat
        omega
      · rw [sum_set (by omega), hs]
        omega
      · rw [set_ints]
        exact (hA'.put2 (o := .lst ((rows.set w.toNat (rows.getD w.toNat 0 + 1)).map .int))).mono (by omega)
  · rintro e A ⟨⟨u, v, rfl⟩, hi, rows, hl, hb, hs, hA⟩
    have el : (rng 0 ((tot : Nat) : Int).toNat).length = tot := by unfold rng; rw [List.length_map, List.length_range]; omega
    rw [el] at hs hA
    walk_at "dx"
    rw [sqOf_ref (xs := rows.map .int) (hA.get updA_same)]
    exact Cv.of (q rows A hl hb hs ((hA.forget hRp).mono (by omega)))
end D

set_option Elab.async false
set_option linter.all false
set_option maxRecDepth 100000
namespace D
open PySem PySem.Spec L2
local macro_rules | `(tactic| walk_at "dx") => `(tactic| conv => whnf)
/-! ### names -/
structure DigOk (s : Str) : Prop where
  len : s.length = 1
  all : ∀ c ∈ s.cps.toList, c ∈ figuresS.cps.toList
theorem dig_ok {v : Int} (h0 : 0 ≤ v) (h1 : v < 10) : DigOk (toString v : String) := by
  have h : v = 0 ∨ v = 1 ∨ v = 2 ∨ v = 3 ∨ v = 4 ∨ v = 5 ∨ v = 6 ∨ v = 7 ∨ v = 8 ∨ v = 9 := by omega
  rcases h with rfl | rfl | rfl | rfl | rfl | rfl | rfl | rfl | rfl | rfl <;> exact ⟨by decide +kernel, by decide +kernel⟩
theorem join_dig : ∀ {ss : List Str}, (∀ s ∈ ss, DigOk s) → (Str.join "" ss).length = ss.length ∧ ∀ c ∈ (Str.join "" ss).cps.toList, c ∈ figuresS.cps.toList
  | [], _ => ⟨rfl, fun c h => by simp [Str.join, Str.empty] at h⟩
  | [x], h => ⟨(h x (List.mem_cons_self ..)).len, (h x (List.mem_cons_self ..)).all⟩
  | x :: y :: r, h => by
    have hx := h x (List.mem_cons_self ..)
    obtain ⟨h1, h2⟩ := join_dig (ss := y :: r) fun s m => h s (List.mem_cons_of_mem _ m)
    have e : Str.join "" (x :: y :: r) = ⟨x.cps ++ (Str.join "" (y :: r)).cps⟩ := by
      show (⟨x.cps ++ (Str.ofString "").cps ++ (Str.join "" (y :: r)).cps⟩ : Str) = _
      have : (Str.ofString "").cps = #[] := by decide +kernel
      rw [this, Array.append_empty]
    have hl := hx.len
    unfold Str.length at hl h1 ⊢
    rw [e]
    refine ⟨by rw [Array.size_append, hl, h1]; simp only [List.length_cons]; omega, fun c m => ?_⟩
    simp only [Array.toList_append, List.mem_append] at m
    rcases m with m | m
    · exact hx.all c m
    · exact h2 c m
theorem sum_dig : ∀ {ss : List Str}, (∀ s ∈ ss, DigOk s) → (ss.map (·.length)).sum = ss.length
  | [], _ => rfl
  | s :: r, h => by
    have h1 := (h s (List.mem_cons_self ..)).len
    have h2 := sum_dig (ss := r) fun z m => h z (List.mem_cons_of_mem _ m)
    rw [List.map_cons, List.sum_cons, h2, List.length_cons, h1]
    omega
theorem letters_get {j : Nat} (h : j < 26) : ∃ c, lettersS.cps.toList[j]? = some c ∧ c ∈ lettersS.cps.toList ∧ c = 97 + j := by
  have e : lettersS.cps.toList = (List.range 26).map (97 + ·) := by decide +kernel
  rw [e]
  have g : ((List.range 26).map (97 + ·))[j]? = some (97 + j) := by rw [List.getElem?_map, List.getElem?_range h]; rfl
  exact ⟨_, g, List.mem_of_getElem? g, rfl⟩
/-- a name whose first letter is the j-th -/
structure NameAt (j : Nat) (s : Str) : Prop where
  ok : NameOk s
  fst : s.cps.toList[0]? = some (97 + j)
theorem name_mk {j : Nat} {ss : List Str} (h : j < 26) (hs : ∀ s ∈ ss, DigOk s) (hl : ss.length ≤ 3) : NameAt j (⟨#[97 + j]⟩ ++ Str.join "" ss) := by
  obtain ⟨c, h1, h2, h3⟩ := letters_get h
  obtain ⟨d1, d2⟩ := join_dig hs
  have e : ((⟨#[97 + j]⟩ : Str) ++ Str.join "" ss).cps.toList = (97 + j) :: (Str.join "" ss).cps.toList := by
    show (#[97 + j] ++ (Str.join "" ss).cps).toList = _
    rw [Array.toList_append]; rfl
  have el : ((⟨#[97 + j]⟩ : Str) ++ Str.join "" ss).length = 1 + ss.length := by
    show (#[97 + j] ++ (Str.join "" ss).cps).size = _
    unfold Str.length at d1
    rw [Array.size_append, d1]; rfl
  have hLF : ∀ c, c ∈ lettersS.cps.toList ∨ c ∈ figuresS.cps.toList → c ∈ (lettersS ++ figuresS).cps.toList := fun c m => by
    show c ∈ (lettersS.cps ++ figuresS.cps).toList
    rw [Array.toList_append, List.mem_append]; exact m
  refine ⟨⟨by rw [el]; omega, ⟨97 + j, by rw [e]; rfl, by rw [← h3]; exact h2⟩, fun c m => ?_, fun ez => ?_⟩, by rw [e]; rfl⟩
  · rw [e, List.mem_cons] at m
    rcases m with rfl | m
    · exact hLF _ (.inl (by rw [← h3]; exact h2))
    · exact hLF _ (.inr (d2 c m))
  · rw [ez] at e
    have e9 : (Str.ofString "zz9").cps.toList = [122, 122, 57] := by decide +kernel
    rw [e9] at e
    injection e with _ e
    have := d2 122 (by rw [← e]; exact List.mem_cons_self ..)
    exact absurd this (by decide +kernel)
def stridesL : List Int := [1, 25, 3, 5, 7, 9, 11, 15, 17, 19, 21, 23]
theorem stride_inj {s i k : Int} (hs : s ∈ stridesL) (sh : Int) (hi : 0 ≤ i ∧ i < 26) (hk : 0 ≤ k ∧ k < 26) (e : (i * s + sh) % 26 = (k * s + sh) % 26) : i = k := by
  unfold stridesL at hs
  simp only [List.mem_cons, List.not_mem_nil, or_false] at hs
  rcases hs with rfl | rfl | rfl | rfl | rfl | rfl | rfl | rfl | rfl | rfl | rfl | rfl <;> omega
def sp__law_names : Spa := fun as A Q => ∃ (a : Addr) (n : Nat) (R : AHp) (many : Nat), as = [.ref a, .int (many : Nat)] ∧ many ≤ 24 ∧ MH a n R A ∧ n < 2 ^ 30 ∧
  ∀ (ns : List Str) A', ns.length = many → ns.Nodup → (∀ s ∈ ns, NameOk s) → MH a (n + 1000) R A' → Q (.tup (ns.map .str)) A'
def t__law_names : TSa :=
  (sSeq (sPar3V 2 3 4 (aCons (aFl (aCons (aC (.int 1)) (aCons (aC (.int 25)) (aCons (aC (.int 3)) (aCons (aC (.int 5)) (aCons (aC (.int 7)) (aCons (aC (.int 9)) (aCons (aC (.int 11)) (aCons (aC (.int 15)) (aCons (aC (.int 17)) (aCons (aC (.int 19)) (aCons (aC (.int 21)) (aCons (aC (.int 23)) aNil))))))))))))) (aCons (aC (.str "abcdefghijklmnopqrstuvwxyz")) (aCons (aLst aNil) aNil))))
    (sSeq (sParV 5 6 (aCons (aCall sp__law_next (aCons (vVar 0) (aCons (aC (.int 26)) aNil))) (aCons (aOp ixV (vVar 2) (aCall sp__law_next (aCons (vVar 0) (aCons (aC (.int 12)) aNil)))) aNil)))
    (sSeq (sForV (jRg1 (aCons (vVar 1) aNil)) (hName 7)
      (sDrop (vML nApp (vVar 4) (aCons (aOp addR (aOp ixV (vVar 3) (aOp modR (aCB tInt (aCons (aOp addR (aOp mulT (vVar 7) (vVar 6)) (vVar 5)) aNil)) (aC (.int 26)))) (vJoin (aC (.str "")) (vLc (jRg1 (aCons (aCall sp__law_next (aCons (vVar 0) (aCons (aC (.int 4)) aNil))) aNil)) (hName 8) aYes (aCB tStr (aCons (aCall sp__law_next (aCons (vVar 0) (aCons (aC (.int 10)) aNil))) aNil)) [8]))) aNil))))
    (sRet (aCB vTuple (aCons (vVar 4) aNil))))))
theorem rd__law_names (as : List AV) (AH : AHp) (Q : AV → AHp → Prop) (h : sp__law_names as AH Q) : t__law_names { nx := fun _ A2 => Cv Q .non A2, rt := Cv Q } (startA ["m", "many", "strides", "letters", "found", "shift", "stride", "k", "turn"] as) AH := by
  obtain ⟨a, n, R, many, rfl, h1, hM, hn, q⟩ := h
  refine ⟨by simp; decide, ?_⟩
  refine ⟨by simp, fun p hp => ?_⟩
  have hRp := hM.non hp
  have hM1 : MH a n (updA R p (.lst [])) (updA AH p (.lst [])) := hM.new hp
  generalize hA1 : updA AH p (.lst []) = A1 at hM1 ⊢
  refine ⟨a, n, _, 26, rfl, hM1, by omega, by omega, by omega, fun shift A2 s0 s1 hM2 => ?_⟩
  refine ⟨a, n + 1, _, 12, rfl, hM2, by omega, by omega, by omega, fun st A3 t0 t1 hM3 => ?_⟩
  have hst : st.toNat < stridesL.length := by show st.toNat < 12; omega
  have hsm : stridesL.getD st.toNat 0 ∈ stridesL := by
    rw [List.getD_eq_getElem?_getD, List.getElem?_eq_getElem hst]
    exact List.getElem_mem hst
  refine ixV_of (gt_ls (x := .fl (stridesL.map .int)) (v := .int (stridesL.getD st.toNat 0)) rfl t0 (ints_get hst)) ?_
  generalize stridesL.getD st.toNat 0 = stride at hsm ⊢
  have hsb : 0 < stride ∧ stride < 26 := by
    unfold stridesL at hsm
    simp only [List.mem_cons, List.not_mem_nil, or_false] at hsm
    omega
  refine ⟨by omega, by omega, ?_⟩
  refine rFor_inv (fun i e A => (∃ x y, e = [some (.ref a), some (.int (many : Nat)), some (.fl (stridesL.map .int)), some (.str lettersS), some (.ref p), some (.int shift), some (.int stride), x, y]) ∧ ∃ ns : List Str, ns.length = i ∧ (∀ (k : Nat) s, ns[k]? = some s → NameAt (((k : Int) * stride + shift) % 26).toNat s) ∧ MH a (n + 2 + 10 * i) (updA R p (.lst (ns.map .str))) A) ⟨⟨_, _, rfl⟩, [], rfl, fun k s h => by simp at h, hM3⟩ ?_ ?_
  · rintro i x e A hx ⟨⟨u, w, rfl⟩, ns, hl, hns, hA⟩ N hN2
    have hi : i < many ∧ x = .int (i : Nat) := by
      unfold rng at hx
      rw [List.getElem?_map] at hx
      obtain ⟨z, hz, e⟩ := Option.map_eq_some_iff.mp hx
      obtain ⟨hz1, hz2⟩ := List.getElem?_eq_some_iff.mp hz
      rw [List.length_range] at hz1
      rw [List.getElem_range] at hz2
      subst hz2
      exact ⟨by omega, by rw [← e]; congr 1; omega⟩
    obtain ⟨hi, rfl⟩ := hi
    walk_at "dx"
    rw [ls_ref (hA.get updA_same)]
    refine ⟨.inl (.inr ⟨by omega, by omega⟩), ?_⟩
    refine ⟨by decide, ?_⟩
    have j0 := Int.emod_nonneg ((i : Int) * stride + shift) (by decide : (26 : Int) ≠ 0)
    have j1 := Int.emod_lt_of_pos ((i : Int) * stride + shift) (by decide : (0 : Int) < 26)
    obtain ⟨c, hc, hcm, hce⟩ := letters_get (j := (((i : Int) * stride + shift) % 26).toNat) (by omega)
    refine ixV_of (v := .str ⟨#[c]⟩) (by
      unfold gtR0
      have : lettersS.length ≤ sizeLine := by decide +kernel
      simp only [if_pos this]
      rw [atI_of j0 hc]; rfl) ?_
    refine ⟨a, _, _, 4, rfl, hA, by omega, by omega, by omega, fun v A4 v0 v1 hM4 => ?_⟩
    refine ⟨by omega, by omega, ?_⟩
    refine lc_mh (keep := free) 1 (fun _ v => ∃ s, v = .str s ∧ DigOk s) hM4 (by unfold rng; rw [List.length_map, List.length_range]; omega) (fun _ => trivial) (fun j y hy B R' hB T F hT => ?_) (fun vs B hvl hvs hB => ?_)
    · have hj : j < 4 := by
        have := (List.getElem?_eq_some_iff.mp hy).1
        unfold rng at this
        rw [List.length_map, List.length_range] at this
        omega
      refine ⟨a, _, _, 10, rfl, hB, by omega, by omega, by omega, fun d B' d0 d1 hB' => ?_⟩
      refine ⟨?_, hT _ _ ⟨_, rfl, dig_ok d0 d1⟩ hB'⟩
      have : d.natAbs < 10 := by omega
      exact Nat.lt_of_le_of_lt (Nat.log2_le_self _) (by omega)
    · obtain ⟨ss, rfl, hss⟩ : ∃ ss : List Str, vs = ss.map .str ∧ ∀ s ∈ ss, DigOk s := by
        have hall : ∀ v ∈ vs, ∃ s, v = .str s ∧ DigOk s := fun v m => by
          obtain ⟨j, hj, ej⟩ := List.getElem_of_mem m
          exact hvs j v (by rw [List.getElem?_eq_getElem hj, ej])
        clear hvl hvs
        induction vs with
        | nil => exact ⟨[], rfl, fun s m => by cases m⟩
        | cons v r ih =>
          obtain ⟨s, rfl, hs⟩ := hall v (List.mem_cons_self ..)
          obtain ⟨ss, rfl, h⟩ := ih fun v m => hall v (List.mem_cons_of_mem _ m)
          exact ⟨s :: ss, rfl, fun z m => (List.mem_cons.mp m).elim (fun e => e ▸ hs) (h z)⟩
      have hll : ss.length ≤ 3 := by
        rw [List.length_map] at hvl
        unfold rng at hvl
        rw [List.length_map, List.length_range] at hvl
        omega
      walk_at "dx"
      rw [aStrs_map]
      have hsum := sum_dig hss
      refine ⟨by rw [hsum, show (Str.ofString "").length = 0 from by decide +kernel]; omega, ?_⟩
      rw [show Txt.join (Str.ofString "") ss = Str.join (Str.ofString "") ss from StrLaws.glued_eq_join _ _]
      have hN := name_mk (j := (((i : Int) * stride + shift) % 26).toNat) (by omega) hss hll
      rw [← hce] at hN
      have hjl := (join_dig hss).1
      refine ⟨by rw [hjl]; show 1 + ss.length ≤ _; exact sz8 (by omega), ?_⟩
      walk_at "dx"
      refine nApp_lst (hB.get updA_same) (by rw [List.length_map, hl]; exact Nat.lt_of_lt_of_le (by omega : i < 1000) (by decide)) ⟨trivial, hN2 _ _ ⟨⟨_, _, rfl⟩, ns ++ [⟨#[c]⟩ ++ Str.join "" ss], by rw [List.length_append, hl]; rfl, fun k s hk => ?_, ?_⟩⟩
      · by_cases hkl : k < ns.length
        · rw [List.getElem?_append_left hkl] at hk
          exact hns k s hk
        · rw [List.getElem?_append_right (by omega)] at hk
          have e0 : k - ns.length = 0 := by
            have := (List.getElem?_eq_some_iff.mp hk).1
            simp at this
            omega
          rw [e0] at hk
          have ek : k = i := by omega
          simp at hk
          rw [ek, ← hk]
          exact hN
      · rw [List.map_append]
        refine (hB.put2 (o := .lst (ns.map .str ++ [.str (⟨#[c]⟩ ++ Str.join "" ss)]))).mono ?_
        unfold rng
        rw [List.length_map, List.length_range]
        omega
  · rintro e A ⟨⟨u, w, rfl⟩, ns, hl, hns, hA⟩
    have el : (rng 0 ((many : Nat) : Int).toNat).length = many := by unfold rng; rw [List.length_map, List.length_range]; omega
    rw [el] at hl hA
    walk_at "dx"
    rw [sqOf_ref (xs := ns.map .str) (hA.get updA_same)]
    refine Cv.of (q ns A hl ?_ (fun s m => ?_) ((hA.forget hRp).mono (by omega)))
    · rw [List.nodup_iff_pairwise_ne, List.pairwise_iff_getElem]
      intro i k hi hk hik e
      have f1 := (hns i _ (List.getElem?_eq_getElem hi)).fst
      have f2 := (hns k _ (List.getElem?_eq_getElem hk)).fst
      rw [e, f2] at f1
      have f3 : 97 + (((k : Int) * stride + shift) % 26).toNat = 97 + (((i : Int) * stride + shift) % 26).toNat := by injection f1
      have i0 := Int.emod_nonneg ((i : Int) * stride + shift) (by decide : (26 : Int) ≠ 0)
      have k0 := Int.emod_nonneg ((k : Int) * stride + shift) (by decide : (26 : Int) ≠ 0)
      have := stride_inj hsm shift ⟨by omega, by omega⟩ ⟨by omega, by omega⟩ (by omega : ((i : Int) * stride + shift) % 26 = ((k : Int) * stride + shift) % 26)
      omega
    · obtain ⟨j, hj, ej⟩ := List.getElem_of_mem m
      exact (hns j s (by rw [List.getElem?_eq_getElem hj, ej])).ok
end D

set_option Elab.async false
set_option linter.all false
set_option maxRecDepth 100000
set_option maxHeartbeats 4000000
namespace D
open PySem PySem.Spec L2
local macro_rules | `(tactic| walk_at "dx") => `(tactic| conv => whnf)
theorem m_merge {x : AV} {b : Addr} {i : Int} : mergeA [] [((Sum.inr ("cells" : Str) : Key), x), (Sum.inr ("left" : Str), AV.ref b), (Sum.inr ("at" : Str), AV.int i)] = [((Sum.inr ("cells" : Str) : Key), x), (Sum.inr ("left" : Str), AV.ref b), (Sum.inr ("at" : Str), AV.int i)] := by
  unfold mergeA
  simp only [List.foldl_cons, List.foldl_nil]
  have h1 : ¬ (Sum.inr ("cells" : Str) : Key) = Sum.inr ("left" : Str) := of_decide_eq_false key_cl
  have h2 : ¬ (Sum.inr ("cells" : Str) : Key) = Sum.inr ("at" : Str) := of_decide_eq_false key_ca
  have h3 : ¬ (Sum.inr ("left" : Str) : Key) = Sum.inr ("at" : Str) := of_decide_eq_false key_la
  rw [putA_new (kvs := []) (by simp)]
  rw [putA_new (kvs := [] ++ [_]) (by simpa using h1)]
  rw [putA_new (by simpa using ⟨fun e => h2 (by rw [e]), fun e => h3 (by rw [e])⟩)]
  rfl
def sp__law_begun : Spa := fun as A Q => ∃ ns : List Int, as = [.kl (ns.map .int)] ∧ ns.length ≤ 63 ∧ ∀ a A', MH a 0 A A' → Q (.ref a) A'
def t__law_begun : TSa :=
  (sRet (aDisp [((aC (.str "cells")), (aCB vList (aCons (vVar 0) aNil))), ((aC (.str "left")), (vLcM (jSq (vVar 0)) (hName 1) (vTest (aOp geR (vVar 1) (aOp powR (aC (.int 10)) (aC (.int 18))))) (vVar 1) [1])), ((aC (.str "at")), (aC (.int 0)))]))
theorem rd__law_begun (as : List AV) (AH : AHp) (Q : AV → AHp → Prop) (h : sp__law_begun as AH Q) : t__law_begun { nx := fun _ A2 => Cv Q .non A2, rt := Cv Q } (startA ["script", "cell"] as) AH := by
  obtain ⟨ns, rfl, hl, q⟩ := h
  walk_at "dx"
  intro p hp
  walk_at "dx"
  unfold lcTM
  intro D hD
  have nD : p ≠ D := fun e => by subst e; rw [updA_same] at hD; cases hD
  have hD2 : AH D = none := by rw [updA_ne nD.symm] at hD; exact hD
  refine ⟨trivial, rLc_inv (fun i acc B => B = updA (updA AH p (.dct [])) D (.lst acc) ∧ ∃ l : List Int, acc = l.map .int ∧ l.length ≤ i) ⟨rfl, [], rfl, Nat.zero_le _⟩ (fun i acc B h => by rw [h.1]; exact updA_same) (fun i x acc B hx ⟨h1, l, h2, h3⟩ T F hT hF => ?_) (fun acc B ⟨h1, l, h2, h3⟩ => ?_)⟩
  · have hi : i < ns.length := by have := (List.getElem?_eq_some_iff.mp hx).1; rw [List.length_map] at this; exact this
    rw [List.getElem?_map] at hx
    obtain ⟨z, hz, rfl⟩ := Option.map_eq_some_iff.mp hx
    subst h1
    refine ⟨⟨by decide, by decide, by decide⟩, ?_⟩
    walk_at "dx"
    by_cases hb : (10 : Int) ^ 18 ≤ z
    · refine dT (by simp only [decide_eq_true_eq]; exact hb) ?_
      refine hT _ _ ⟨updA_same, by rw [h2, List.length_map]; exact Nat.lt_of_lt_of_le (by omega : _ < 1000) (by decide), trivial, by rw [updA_upd], l ++ [z], by rw [h2, List.map_append]; rfl, by rw [List.length_append]; simp; exact h3⟩
    · refine dF (by simp only [decide_eq_true_eq]; exact hb) ?_
      exact hF _ ⟨updA_same, trivial, rfl, l, h2, by omega⟩
  · subst h1
    refine ⟨by rw [updA_ne nD]; exact updA_same, _, rfl, by show 3 ≤ 15; decide, ?_⟩
    rw [m_merge]
    refine Cv.of (q p _ ⟨D, ns, l, 0, ⟨updA_same, by rw [updA_ne nD.symm, updA_same, h2], nD, hp, hD2, fun a o e => ?_⟩, Nat.le_refl 0⟩)
    have n1 : a ≠ p := fun q => by subst q; rw [hp] at e; cases e
    have n2 : a ≠ D := fun q => by subst q; rw [hD2] at e; cases e
    rw [updA_ne n1, updA_ne n2, updA_ne n1]; exact e
def sp__law_number : Spa := fun as A Q => ∃ (T : List Task) (x : AV) (i : Nat), as = [.tup [.tup (T.map encT), x], .str (nmAt T i)] ∧ T.length ≤ 24 ∧ i < T.length ∧ (nms T).Nodup ∧ Q (.int (i : Nat)) A
def t__law_number : TSa :=
  (sRet (vML nIdx (vLc (jSq (aOp ixV (vVar 0) (aC (.int 0)))) (hName 2) aYes (aOp ixV (vVar 2) (aC (.int 0))) [2]) (aCons (vVar 1) aNil)))
theorem rd__law_number (as : List AV) (AH : AHp) (Q : AV → AHp → Prop) (h : sp__law_number as AH Q) : t__law_number { nx := fun _ A2 => Cv Q .non A2, rt := Cv Q } (startA ["graph", "name", "task"] as) AH := by
  obtain ⟨T, x, i, rfl, hl, hi, nd, q⟩ := h
  walk_at "dx"
  refine lc_map (keep := free) encT (fun t => .str t.nm) (sz8 (by omega)) keep_free (fun n hn B _ T F hT => hT) ?_
  rw [nms_eq]
  walk_at "dx"
  exact nIdx_at rfl (at_strs nd (nms_get hi)) (Cv.of q)
theorem le_mul_one {a b : Int} (ha : 1 ≤ a) (hb : 0 ≤ b) : b ≤ a * b := by
  have := Int.mul_le_mul_of_nonneg_right ha hb
  omega
structure TasksOk (T : List Task) : Prop where
  len : 1 ≤ T.length ∧ T.length ≤ 24
  ts : ∀ t ∈ T, TaskOk t
  nod : (T.map Task.nm).Nodup
/-- what one end gives in a lap the other takes -/
def Bal (laps : List Int) (l : Ln) : Prop := l.gs.sum * laps.getD l.o 0 = l.ts.sum * laps.getD l.t 0
def BalS (laps : List Int) (l : Ln) : Prop := Bal laps l ∧ l.st ≤ 1000
def sp__law_line : Spa := fun as A Q => ∃ (a : Addr) (n : Nat) (R : AHp) (T : List Task) (laps : List Int) (one other : Nat) (L : AV), as = [.ref a, .tup (T.map encT), L, .int (one : Nat), .int (other : Nat)] ∧ (L = .fl (laps.map .int) ∨ L = .tup (laps.map .int)) ∧ TasksOk T ∧ laps.length = T.length ∧ (∀ l ∈ laps, (1 : Int) ≤ l ∧ l ≤ 3) ∧
  one < T.length ∧ other < T.length ∧ MH a n R A ∧ n < 2 ^ 29 ∧ ∀ l A', LnOk T l → BalS laps l → MH a (n + 5000) R A' → Q (encL T l) A'
def t__law_line : TSa :=
  (sSeq (sAsg (aCall sp__law_gcd (aCons (aOp ixV (vVar 2) (vVar 3)) (aCons (aOp ixV (vVar 2) (vVar 4)) aNil))) (hName 5))
    (sSeq (sParV 6 7 (aCons (aOp divR (aOp ixV (vVar 2) (vVar 4)) (vVar 5)) (aCons (aOp divR (aOp ixV (vVar 2) (vVar 3)) (vVar 5)) aNil)))
    (sSeq (sAsg (aOp addR (aC (.int 1)) (aCall sp__law_next (aCons (vVar 0) (aCons (aCB bMin (aCons (aC (.int 2)) (aCons (aOp divR (aOp mulT (aC (.int 9)) (aCB vLen (aCons (aOp ixV (aOp ixV (vVar 1) (vVar 3)) (aC (.int 1))) aNil))) (vVar 6)) (aCons (aOp divR (aOp mulT (aC (.int 9)) (aCB vLen (aCons (aOp ixV (aOp ixV (vVar 1) (vVar 4)) (aC (.int 1))) aNil))) (vVar 7)) aNil)))) aNil)))) (hName 8))
    (sSeq (sAsg (aOp mulT (aOp mulT (vVar 8) (vVar 6)) (aOp ixV (vVar 2) (vVar 3))) (hName 9))
    (sSeq (sAsg (aCall sp__law_of (aCons (vVar 0) (aCons (aFl (aCons (aC (.int 0)) (aCons (aC (.int 0)) (aCons (aCall sp__law_next (aCons (vVar 0) (aCons (aOp addR (vVar 9) (aC (.int 1))) aNil))) (aCons (vVar 9) (aCons (aOp addR (vVar 9) (aCall sp__law_next (aCons (vVar 0) (aCons (aOp addR (vVar 9) (aC (.int 1))) aNil)))) aNil)))))) aNil))) (hName 10))
    (sSeq (sParV 6 7 (aCons (aCall sp__law_shared (aCons (vVar 0) (aCons (aOp mulT (vVar 8) (vVar 6)) (aCons (aCB vLen (aCons (aOp ixV (aOp ixV (vVar 1) (vVar 3)) (aC (.int 1))) aNil)) aNil)))) (aCons (aCall sp__law_shared (aCons (vVar 0) (aCons (aOp mulT (vVar 8) (vVar 7)) (aCons (aCB vLen (aCons (aOp ixV (aOp ixV (vVar 1) (vVar 4)) (aC (.int 1))) aNil)) aNil)))) aNil)))
    (sRet (aTup (aCons (aOp ixV (aOp ixV (vVar 1) (vVar 3)) (aC (.int 0))) (aCons (aOp ixV (aOp ixV (vVar 1) (vVar 4)) (aC (.int 0))) (aCons (vVar 6) (aCons (vVar 7) (aCons (vVar 10) aNil)))))))))))))
theorem rd__law_line (as : List AV) (AH : AHp) (Q : AV → AHp → Prop) (h : sp__law_line as AH Q) : t__law_line { nx := fun _ A2 => Cv Q .non A2, rt := Cv Q } (startA ["m", "tasks", "laps", "one", "other", "common", "gives", "takes", "times", "flow", "stock"] as) AH := by
  obtain ⟨a, n, R, T, laps, one, other, L, rfl, hL, tok, hll, hlb, h1, h2, hM, hn, q⟩ := h
  obtain ⟨ta, hta⟩ : ∃ t, T[one]? = some t := ⟨_, List.getElem?_eq_getElem h1⟩
  obtain ⟨tb, htb⟩ : ∃ t, T[other]? = some t := ⟨_, List.getElem?_eq_getElem h2⟩
  have la := (tok.ts ta (List.mem_of_getElem? hta)).len
  have lb := (tok.ts tb (List.mem_of_getElem? htb)).len
  have gl1 : ∀ i : Nat, i < T.length → (1 : Int) ≤ laps.getD i 0 ∧ laps.getD i 0 ≤ 3 := fun i hi => by
    rw [List.getD_eq_getElem?_getD, List.getElem?_eq_getElem (by omega)]
    exact hlb _ (List.getElem_mem _)
  have ga : ∀ (B : AHp) (i : Nat), i < T.length → gtR0 B L (.int (i : Nat)) = some (.int (laps.getD i 0)) := fun B i hi => by
    rcases hL with rfl | rfl
    · exact gt_ls rfl (by omega) (by rw [Int.toNat_natCast]; exact ints_get (by omega))
    · exact gt_tup (by omega) (by rw [Int.toNat_natCast]; exact ints_get (by omega))
  have gt : ∀ (B : AHp) (i : Nat) (t : Task), T[i]? = some t → gtR0 B (.tup (T.map encT)) (.int (i : Nat)) = some (encT t) := fun B i t ht => gt_tup (by omega) (by rw [Int.toNat_natCast, List.getElem?_map, ht]; rfl)
  have b1 := gl1 one h1
  have b2 := gl1 other h2
  walk_at "dx"
  rw [ga _ one h1]
  walk_at "dx"
  rw [ga _ other h2]
  have g1 := Int.gcd_dvd_left (laps.getD one 0) (laps.getD other 0)
  have g2 := Int.gcd_dvd_right (laps.getD one 0) (laps.getD other 0)
  have hg : (0 : Int) < ((Int.gcd (laps.getD one 0) (laps.getD other 0) : Nat) : Int) := by
    have := Int.gcd_pos_of_ne_zero_left (laps.getD other 0) (by omega : laps.getD one 0 ≠ 0)
    omega
  refine ⟨laps.getD one 0, laps.getD other 0, rfl, by omega, by omega, ?_⟩
  generalize ((Int.gcd (laps.getD one 0) (laps.getD other 0) : Nat) : Int) = g at g1 g2 hg ⊢
  have hg3 : g ≤ 3 := Int.le_trans (Int.le_of_dvd (by omega) g1) b1.2
  walk_at "dx"
  rw [ga _ other h2]
  refine ⟨hg, by omega, ?_⟩
  walk_at "dx"
  rw [ga _ one h1]
  refine ⟨hg, by omega, ?_⟩
  have e1 : 1 ≤ laps.getD other 0 / g := by
    have := Int.le_of_dvd (by omega) g2
    exact (Int.le_ediv_iff_mul_le hg).mpr (by omega)
  have e2 : laps.getD other 0 / g ≤ 3 := Int.le_trans (Int.ediv_le_self _ (by omega)) b2.2
  have e3 : 1 ≤ laps.getD one 0 / g := by
    have := Int.le_of_dvd (by omega) g1
    exact (Int.le_ediv_iff_mul_le hg).mpr (by omega)
  have e4 : laps.getD one 0 / g ≤ 3 := Int.le_trans (Int.ediv_le_self _ (by omega)) b1.2
  generalize hG : laps.getD other 0 / g = gives at e1 e2 ⊢
  generalize hT : laps.getD one 0 / g = takes at e3 e4 ⊢
  walk_at "dx"
  rw [gt _ one ta hta]
  refine ⟨.inl (.inl ⟨by decide, by decide⟩), ?_⟩
  refine ⟨by omega, by omega, ?_⟩
  rw [List.length_map]
  walk_at "dx"
  rw [gt _ other tb htb]
  refine ⟨.inl (.inl ⟨by decide, by decide⟩), ?_⟩
  refine ⟨by omega, by omega, ?_⟩
  rw [List.length_map]
  have f1 : 1 ≤ 9 * ((ta.ds.length : Nat) : Int) / gives := (Int.le_ediv_iff_mul_le (by omega)).mpr (by omega)
  have f2 : 1 ≤ 9 * ((tb.ds.length : Nat) : Int) / takes := (Int.le_ediv_iff_mul_le (by omega)).mpr (by omega)
  have f3 := Int.ediv_mul_le (9 * ((ta.ds.length : Nat) : Int)) (by omega : gives ≠ 0)
  have f4 := Int.ediv_mul_le (9 * ((tb.ds.length : Nat) : Int)) (by omega : takes ≠ 0)
  generalize 9 * ((ta.ds.length : Nat) : Int) / gives = w1 at f1 f3 ⊢
  generalize 9 * ((tb.ds.length : Nat) : Int) / takes = w2 at f2 f4 ⊢
  refine ⟨a, n, R, _, rfl, hM, by omega, by omega, by omega, fun v A1 v0 v1 hM1 => ?_⟩
  have t1 : 1 + v ≤ 2 := by omega
  have t2 : (1 + v) * gives ≤ 9 * ((ta.ds.length : Nat) : Int) := Int.le_trans (Int.mul_le_mul_of_nonneg_right (by omega : 1 + v ≤ w1) (by omega)) f3
  have t3 : (1 + v) * takes ≤ 9 * ((tb.ds.length : Nat) : Int) := Int.le_trans (Int.mul_le_mul_of_nonneg_right (by omega : 1 + v ≤ w2) (by omega)) f4
  have t4 : 1 ≤ (1 + v) * gives := Int.le_trans (by omega) (le_mul_one (by omega : 1 ≤ 1 + v) (by omega))
  have t5 : 1 ≤ (1 + v) * takes := Int.le_trans (by omega) (le_mul_one (by omega : 1 ≤ 1 + v) (by omega))
  have t6 : (1 + v) * gives ≤ 6 := by
    have := Int.mul_le_mul t1 e2 (by omega) (by omega)
    omega
  refine ⟨.inl (.inl ⟨by omega, by omega⟩), ?_⟩
  generalize hP1 : (1 + v) * gives = p1 at t2 t4 t6 ⊢
  walk_at "dx"
  rw [ga _ one h1]
  refine ⟨.inl (.inl ⟨by omega, by omega⟩), ?_⟩
  have fl1 : 1 ≤ p1 * laps.getD one 0 := Int.le_trans (by omega) (le_mul_one t4 (by omega))
  have fl2 : p1 * laps.getD one 0 ≤ 18 := by
    have := Int.mul_le_mul t6 b1.2 (by omega) (by omega)
    omega
  generalize p1 * laps.getD one 0 = flow at fl1 fl2 ⊢
  refine ⟨a, _, R, _, rfl, hM1, by omega, by omega, by omega, fun s1 A2 s1a s1b hM2 => ?_⟩
  refine ⟨a, _, R, _, rfl, hM2, by omega, by omega, by omega, fun s2 A3 s2a s2b hM3 => ?_⟩
  refine ⟨by simp; decide, ?_⟩
  refine ⟨a, _, R, _, [.int 0, .int 0, .int s1, .int flow, .int (flow + s2)], rfl, .inl rfl, by simp, by simp, hM3, by omega, fun i st A4 hi hM4 => ?_⟩
  obtain ⟨stock, rfl, st0, st1⟩ : ∃ z : Int, st = .int z ∧ 0 ≤ z ∧ z ≤ 1000 := by
    match i, hi with
    | 0, hi => cases hi; exact ⟨_, rfl, by omega, by omega⟩
    | 1, hi => cases hi; exact ⟨_, rfl, by omega, by omega⟩
    | 2, hi => cases hi; exact ⟨_, rfl, by omega, by omega⟩
    | 3, hi => cases hi; exact ⟨_, rfl, by omega, by omega⟩
    | 4, hi => cases hi; exact ⟨_, rfl, by omega, by omega⟩
  refine ⟨.inl (.inl ⟨by omega, by omega⟩), ?_⟩
  rw [hP1]
  walk_at "dx"
  rw [gt _ one ta hta]
  refine ⟨a, _, R, p1.toNat, ta.ds.length, by rw [Int.toNat_of_nonneg (by omega), List.length_map], la.1, la.2, by omega, hM4, by omega, fun gs A5 gl gb gsum hM5 => ?_⟩
  refine ⟨.inl (.inl ⟨by omega, by omega⟩), ?_⟩
  walk_at "dx"
  rw [gt _ other tb htb]
  refine ⟨a, _, R, ((1 + v) * takes).toNat, tb.ds.length, by rw [Int.toNat_of_nonneg (by omega), List.length_map], lb.1, lb.2, by omega, hM5, by omega, fun ts A6 tl tb2 tsum hM6 => ?_⟩
  walk_at "dx"
  rw [gt _ one ta hta]
  walk_at "dx"
  rw [gt _ other tb htb]
  refine ⟨by simp; decide, ?_⟩
  have lo : LnOk T ⟨one, other, gs, ts, stock⟩ := ⟨⟨ta, hta, gl⟩, ⟨tb, htb, tl⟩, gb, tb2, by show 0 < gs.sum; omega, by show 0 < ts.sum; omega, ⟨st0, by show stock ≤ 99999; omega⟩⟩
  have bal : Bal laps ⟨one, other, gs, ts, stock⟩ := by
    show gs.sum * laps.getD one 0 = ts.sum * laps.getD other 0
    have z1 : g * takes = laps.getD one 0 := by rw [← hT]; exact Int.mul_ediv_cancel' g1
    have z2 : g * gives = laps.getD other 0 := by rw [← hG]; exact Int.mul_ediv_cancel' g2
    rw [gsum, tsum, Int.toNat_of_nonneg (by omega), Int.toNat_of_nonneg (by omega), ← hP1, ← z1, ← z2, Int.mul_assoc, Int.mul_assoc, Int.mul_left_comm gives g takes, Int.mul_left_comm takes g gives, Int.mul_comm gives takes]
  have := q _ A6 lo ⟨bal, st1⟩ (hM6.mono (by omega))
  unfold encL at this
  rw [nmAt_of hta, nmAt_of htb] at this
  exact Cv.of this
end D

set_option Elab.async false
set_option linter.all false
set_option maxRecDepth 100000
set_option maxHeartbeats 4000000
namespace D
open PySem PySem.Spec L2
local macro_rules | `(tactic| walk_at "dx") => `(tactic| conv => whnf)
theorem all_ints {P : Int → Prop} : ∀ {vs : List AV}, (∀ (i : Nat) v, vs[i]? = some v → ∃ z, v = .int z ∧ P z) → ∃ ns : List Int, vs = ns.map .int ∧ ∀ z ∈ ns, P z
  | [], _ => ⟨[], rfl, fun z m => by cases m⟩
  | v :: r, h => by
    obtain ⟨z, rfl, hz⟩ := h 0 v rfl
    obtain ⟨ns, rfl, h2⟩ := all_ints (vs := r) fun i v hv => h (i + 1) v (by simpa using hv)
    exact ⟨z :: ns, rfl, fun y m => (List.mem_cons.mp m).elim (fun e => e ▸ hz) (h2 y)⟩
theorem all_tasks {ph : Nat} (hph : ph ≤ 24) : ∀ {vs : List AV} {ns : List Str}, vs.length = ns.length → (∀ s ∈ ns, NameOk s) → (∀ (i : Nat) v, vs[i]? = some v → ∃ s ds, ns[i]? = some s ∧ v = encT ⟨s, ds⟩ ∧ (1 ≤ ds.length ∧ ds.length ≤ ph) ∧ ∀ d ∈ ds, (1 : Int) ≤ d ∧ d ≤ 99) →
    ∃ T : List Task, vs = T.map encT ∧ T.map Task.nm = ns ∧ ∀ t ∈ T, TaskOk t ∧ t.ds.length ≤ ph
  | [], [], _, _, _ => ⟨[], rfl, rfl, fun z m => by cases m⟩
  | [], _ :: _, h, _, _ => by simp at h
  | _ :: _, [], h, _, _ => by simp at h
  | v :: r, s :: ns, hl, hn, h => by
    obtain ⟨s', ds, e, rfl, h1, h2⟩ := h 0 v rfl
    have es : s = s' := by simpa using e
    subst es
    obtain ⟨T, rfl, rfl, h3⟩ := all_tasks hph (vs := r) (ns := ns) (by simpa using hl) (fun z m => hn z (List.mem_cons_of_mem _ m)) fun i v hv => by
      obtain ⟨s, ds, a, b, c⟩ := h (i + 1) v (by simpa using hv)
      exact ⟨s, ds, by simpa using a, b, c⟩
    exact ⟨⟨s, ds⟩ :: T, rfl, rfl, fun y m => (List.mem_cons.mp m).elim (fun e => e ▸ ⟨⟨hn s (List.mem_cons_self ..), ⟨h1.1, Nat.le_trans h1.2 hph⟩, h2⟩, h1.2⟩) (h3 y)⟩
theorem rng_len {lo : Int} {n : Nat} : (rng lo n).length = n := by unfold rng; rw [List.length_map, List.length_range]
theorem rng_get {lo : Int} {n i : Nat} {x : AV} (h : (rng lo n)[i]? = some x) : i < n ∧ x = .int (lo + (i : Nat)) := by
  unfold rng at h
  rw [List.getElem?_map] at h
  obtain ⟨z, hz, e⟩ := Option.map_eq_some_iff.mp h
  obtain ⟨hz1, hz2⟩ := List.getElem?_eq_some_iff.mp hz
  rw [List.length_range] at hz1
  rw [List.getElem_range] at hz2
  subst hz2
  exact ⟨hz1, e.symm⟩
def sp__law_tasks : Spa := fun as A Q => ∃ (a : Addr) (n : Nat) (R : AHp) (many ph : Nat), as = [.ref a, .int (many : Nat), .int (ph : Nat)] ∧ 1 ≤ many ∧ many ≤ 24 ∧ 1 ≤ ph ∧ ph ≤ 24 ∧ MH a n R A ∧ n < 2 ^ 29 ∧
  ∀ T A', T.length = many → TasksOk T → (∀ t ∈ T, t.ds.length ≤ ph) → MH a (n + 100000) R A' → Q (.tup (T.map encT)) A'
def t__law_tasks : TSa :=
  (sRet (aCB vTuple (aCons (vLc (jSq (aCall sp__law_names (aCons (vVar 0) (aCons (vVar 1) aNil)))) (hName 3) aYes (aTup (aCons (vVar 3) (aCons (aCB vTuple (aCons (vLc (jRg1 (aCons (aOp addR (aC (.int 1)) (aCall sp__law_next (aCons (vVar 0) (aCons (vVar 2) aNil)))) aNil)) (hName 4) aYes (aOp addR (aC (.int 1)) (aCall sp__law_next (aCons (vVar 0) (aCons (aC (.int 9)) aNil)))) [4]) aNil)) aNil))) [3]) aNil)))
theorem rd__law_tasks (as : List AV) (AH : AHp) (Q : AV → AHp → Prop) (h : sp__law_tasks as AH Q) : t__law_tasks { nx := fun _ A2 => Cv Q .non A2, rt := Cv Q } (startA ["m", "many", "phases", "name", "k"] as) AH := by
  obtain ⟨a, n, R, many, ph, rfl, h0, h1, h2, h3, hM, hn, q⟩ := h
  refine ⟨a, n, R, many, rfl, h1, hM, by omega, fun ns A1 nl nnd nok hM1 => ?_⟩
  walk_at "dx"
  refine lc_mh (keep := free) 1000 (fun i v => ∃ s ds, ns[i]? = some s ∧ v = encT ⟨s, ds⟩ ∧ (1 ≤ ds.length ∧ ds.length ≤ ph) ∧ ∀ d ∈ ds, (1 : Int) ≤ d ∧ d ≤ 99) hM1 (by rw [List.length_map]; omega) (fun _ => trivial) (fun i x hx B R' hB T F hT => ?_) (fun vs B hvl hvs hB => ?_)
  · have hi : i < ns.length := by have := (List.getElem?_eq_some_iff.mp hx).1; rw [List.length_map] at this; exact this
    rw [List.getElem?_map] at hx
    obtain ⟨s, hs, rfl⟩ := Option.map_eq_some_iff.mp hx
    refine ⟨a, _, _, (ph : Int), rfl, hB, by omega, by omega, by omega, fun v A2 v0 v1 hM2 => ?_⟩
    refine ⟨by omega, by omega, ?_⟩
    refine lc_mh (keep := free) 1 (fun _ v => ∃ z : Int, v = .int z ∧ 1 ≤ z ∧ z ≤ 99) hM2 (by rw [rng_len]; omega) (fun _ => trivial) (fun j y hy B R'' hB T F hT => ?_) (fun vs B hvl hvs hB => ?_)
    · have hj := (rng_get hy).1
      refine ⟨a, _, _, 9, rfl, hB, by omega, by omega, by omega, fun d B' d0 d1 hB' => ?_⟩
      exact hT _ _ ⟨_, rfl, by omega, by omega⟩ hB'
    · obtain ⟨ds, rfl, hds⟩ := all_ints hvs
      rw [rng_len] at hvl hB
      rw [List.length_map] at hvl
      refine ⟨by simp; decide, ?_⟩
      exact hT _ _ ⟨s, ds, hs, rfl, by omega, hds⟩ (hB.mono (by omega))
  · rw [List.length_map] at hvl hB
    obtain ⟨T, rfl, rfl, h4⟩ := all_tasks h3 (hvl) nok hvs
    rw [List.length_map] at nl
    exact Cv.of (q T B nl ⟨by omega, fun t m => (h4 t m).1, nnd⟩ (fun t m => (h4 t m).2) (hB.mono (by rw [List.length_map]; omega)))
theorem NameOk.strOk {s : Str} (h : NameOk s) : PyData.strOk s = true := by
  have e : ∀ c ∈ (lettersS ++ figuresS).cps.toList, c < 0x110000 := by decide +kernel
  unfold PyData.strOk
  rw [Array.all_eq_true_iff_forall_mem]
  intro c m
  exact decide_eq_true (e c (h.all c (Array.mem_toList_iff.mpr m)))
theorem encL_ok {T : List Task} {l : Ln} (ok : LnOk T l) (hT : ∀ t ∈ T, TaskOk t) : OkA 2 (encL T l) :=
  .tup (.cons (.str (ok.onm hT).strOk) (.cons (.str (ok.tnm hT).strOk) (.cons (.tup (.ints _)) (.cons (.tup (.ints _)) (.cons (.int _) .nil)))))
theorem encLs_ok {T : List Task} {L : List Ln} (ok : ∀ l ∈ L, LnOk T l) (hT : ∀ t ∈ T, TaskOk t) : OkAs 60 (L.map (encL T)) := .all fun x m => by
  obtain ⟨l, hl, rfl⟩ := List.mem_map.mp m
  exact (encL_ok (ok l hl) hT).mono (by omega)
theorem updA_comm {A : AHp} {p q : Addr} {o u : AO} (h : p ≠ q) : updA (updA A p o) q u = updA (updA A q u) p o := by
  funext b
  unfold updA
  by_cases h1 : b = q
  · subst h1; simp [h.symm]
  · simp [h1]
theorem map_erase {α β : Type} (f : α → β) : ∀ (xs : List α) (i : Nat), (xs.eraseIdx i).map f = (xs.map f).eraseIdx i
  | [], _ => rfl
  | _ :: _, 0 => rfl
  | x :: r, i + 1 => by simp only [List.eraseIdx_cons_succ, List.map_cons, map_erase f r i]
structure Laps (G : Gr) (laps : List Int) (most : Int) : Prop where
  len : laps.length = G.tasks.length
  lb : ∀ l ∈ laps, (1 : Int) ≤ l ∧ l ≤ most
  bal : ∀ l ∈ G.lines, BalS laps l
  few : G.lines.length ≤ 40
  dl : ∀ t ∈ G.tasks, t.ds.length ≤ 23
def sp__law_graph : Spa := fun as A Q => ∃ (a : Addr) (n : Nat) (R : AHp) (many ph : Nat) (most : Int), as = [.ref a, .int (many : Nat), .int (ph : Nat), .int most] ∧ 1 ≤ many ∧ many ≤ 20 ∧ 1 ≤ ph ∧ ph ≤ 23 ∧ 1 ≤ most ∧ most ≤ 3 ∧ MH a n R A ∧ n < 2 ^ 25 ∧
  ∀ G laps A', GoodG G → G.tasks.length = many → Laps G laps most → MH a (n + 1000000) R A' → Q (encG G) A'
def t__law_graph : TSa :=
  (sSeq (sPar3V 4 5 6 (aCons (aCall sp__law_tasks (aCons (vVar 0) (aCons (vVar 1) (aCons (vVar 2) aNil)))) (aCons (vLc (jRg1 (aCons (vVar 1) aNil)) (hName 7) aYes (aOp addR (aC (.int 1)) (aCall sp__law_next (aCons (vVar 0) (aCons (vVar 3) aNil)))) [7]) (aCons (aLst aNil) aNil))))
    (sSeq (sForV (jRg2 (aCons (aC (.int 1)) (aCons (vVar 1) aNil))) (hName 7)
      (sSeq (sAsg (aCall sp__law_next (aCons (vVar 0) (aCons (vVar 7) aNil))) (hName 8))
      (sIf (vTest (aOp gtR (aCall sp__law_next (aCons (vVar 0) (aCons (aC (.int 12)) aNil))) (aC (.int 0))))
        (sDrop (vML nApp (vVar 6) (aCons (aIf (vTest (aOp gtR (aCall sp__law_next (aCons (vVar 0) (aCons (aC (.int 3)) aNil))) (aC (.int 0)))) (aCall sp__law_line (aCons (vVar 0) (aCons (vVar 4) (aCons (vVar 5) (aCons (vVar 8) (aCons (vVar 7) aNil)))))) (aCall sp__law_line (aCons (vVar 0) (aCons (vVar 4) (aCons (vVar 5) (aCons (vVar 7) (aCons (vVar 8) aNil))))))) aNil)))
        sNext)))
    (sSeq (sForV (jRg1 (aCons (aCall sp__law_next (aCons (vVar 0) (aCons (aOp addR (vVar 1) (aC (.int 1))) aNil))) aNil)) (hName 7)
      (sDrop (vML nApp (vVar 6) (aCons (aCall sp__law_line (aCons (vVar 0) (aCons (vVar 4) (aCons (vVar 5) (aCons (aCall sp__law_next (aCons (vVar 0) (aCons (vVar 1) aNil))) (aCons (aCall sp__law_next (aCons (vVar 0) (aCons (vVar 1) aNil))) aNil)))))) aNil))))
    (sSeq (sAsg (aLst aNil) (hName 9))
    (sSeq (sWhile (vTest (aOp neW (vVar 6) (aFl aNil)))
      (sDrop (vML nApp (vVar 9) (aCons (vML nPopI (vVar 6) (aCons (aCall sp__law_next (aCons (vVar 0) (aCons (aCB vLen (aCons (vVar 6) aNil)) aNil))) aNil)) aNil))))
    (sRet (aTup (aCons (vVar 4) (aCons (aCB vTuple (aCons (vVar 9) aNil)) aNil)))))))))
theorem rd__law_graph (as : List AV) (AH : AHp) (Q : AV → AHp → Prop) (h : sp__law_graph as AH Q) : t__law_graph { nx := fun _ A2 => Cv Q .non A2, rt := Cv Q } (startA ["m", "many", "phases", "most", "tasks", "laps", "lines", "k", "one", "order"] as) AH := by
  obtain ⟨a, n, R, many, ph, most, rfl, h0, h1, h2, h3, h4, h5, hM, hn, q⟩ := h
  refine ⟨a, n, R, many, ph, rfl, h0, by omega, h2, by omega, hM, by omega, fun T A1 Tl tok tdl hM1 => ?_⟩
  refine ⟨by omega, by omega, ?_⟩
  refine lc_mh (keep := free) 1 (fun _ v => ∃ z : Int, v = .int z ∧ 1 ≤ z ∧ z ≤ most) hM1 (by rw [rng_len]; omega) (fun _ => trivial) (fun j y hy B R'' hB T F hT => ?_) (fun vs A2 hvl hvs hM2 => ?_)
  · have hj := (rng_get hy).1
    refine ⟨a, _, _, most, rfl, hB, by omega, by omega, by omega, fun d B' d0 d1 hB' => ?_⟩
    exact hT _ _ ⟨_, rfl, by omega, by omega⟩ hB'
  obtain ⟨laps, rfl, hlaps2⟩ := all_ints hvs
  have hlaps : ∀ z ∈ laps, (1 : Int) ≤ z ∧ z ≤ 3 := fun z m => by have := hlaps2 z m; omega
  rw [rng_len] at hvl hM2
  rw [List.length_map] at hvl
  walk_at "dx"
  refine ⟨by simp, fun p hp => ?_⟩
  have hRp := hM2.non hp
  refine ⟨by omega, ?_⟩
  refine rFor_inv (fun i e A => (∃ x y, e = [some (.ref a), some (.int (many : Nat)), some (.int (ph : Nat)), some (.int most), some (.tup (T.map encT)), some (.fl (laps.map .int)), some (.ref p), x, y, none]) ∧ ∃ L : List Ln, L.length ≤ i ∧ (∀ l ∈ L, LnOk T l ∧ BalS laps l) ∧ MH a (n + 200000 + 6000 * i) (updA R p (.lst (L.map (encL T)))) A) ⟨⟨_, _, rfl⟩, [], Nat.zero_le _, (fun l m => by cases m), (hM2.new hp).mono (by omega)⟩ ?_ ?_
  · rintro i x e A hx ⟨⟨u, w, rfl⟩, L, hLl, hL, hA⟩ N hN
    obtain ⟨hi, rfl⟩ := rng_get hx
    refine ⟨a, _, _, 1 + (i : Int), rfl, hA, by omega, by omega, by omega, fun one A3 o0 o1 hM3 => ?_⟩
    refine ⟨a, _, _, 12, rfl, hM3, by omega, by omega, by omega, fun c A4 c0 c1 hM4 => ?_⟩
    walk_at "dx"
    by_cases hc : 0 < c
    · refine dT (by simp; exact hc) ?_
      walk_at "dx"
      rw [ls_ref (hM4.get updA_same)]
      refine ⟨a, _, _, 3, rfl, hM4, by omega, by omega, by omega, fun d A5 d0 d1 hM5 => ?_⟩
      have fin : ∀ l A6, LnOk T l ∧ BalS laps l → MH a (n + 200000 + 6000 * i + 1 + 1 + 1 + 5000) (updA R p (.lst (L.map (encL T)))) A6 → N [some (.ref a), some (.int (many : Nat)), some (.int (ph : Nat)), some (.int most), some (.tup (T.map encT)), some (.fl (laps.map .int)), some (.ref p), some (.int (1 + (i : Nat))), some (.int one), none] (updA A6 p (.lst (L.map (encL T) ++ [encL T l]))) := fun l A6 lo hM6 => by
        refine hN _ _ ⟨⟨_, _, rfl⟩, L ++ [l], by rw [List.length_append]; simp; exact hLl, fun z m => (List.mem_append.mp m).elim (hL z) (fun m => by rw [List.mem_singleton] at m; rw [m]; exact lo), ?_⟩
        rw [List.map_append]
        exact (hM6.put2 (o := .lst (L.map (encL T) ++ [l].map (encL T)))).mono (by omega)
      have hl2 : (L.map (encL T)).length < sizeLine := by rw [List.length_map]; exact Nat.lt_of_lt_of_le (by omega : _ < 1000) (by decide)
      walk_at "dx"
      by_cases hd : 0 < d
      · refine dT (by simp; exact hd) ?_
        refine ⟨a, _, _, T, laps, one.toNat, 1 + i, _, by rw [Int.toNat_of_nonneg o0]; simp, .inl rfl, tok, by omega, hlaps, by omega, by omega, hM5, by omega, fun l A6 lo lb hM6 => ?_⟩
        walk_at "dx"
        exact nApp_lst (hM6.get updA_same) hl2 ⟨trivial, fin l A6 ⟨lo, lb⟩ hM6⟩
      · refine dF (by simp; omega) ?_
        refine ⟨a, _, _, T, laps, 1 + i, one.toNat, _, by rw [Int.toNat_of_nonneg o0]; simp, .inl rfl, tok, by omega, hlaps, by omega, by omega, hM5, by omega, fun l A6 lo lb hM6 => ?_⟩
        walk_at "dx"
        exact nApp_lst (hM6.get updA_same) hl2 ⟨trivial, fin l A6 ⟨lo, lb⟩ hM6⟩
    · refine dF (by simp; omega) ?_
      exact ⟨trivial, hN _ _ ⟨⟨_, _, rfl⟩, L, by omega, hL, hM4.mono (by omega)⟩⟩
  rintro e A3 ⟨⟨u, w, rfl⟩, L, hLl, hL, hM3⟩
  rw [rng_len] at hLl hM3
  refine ⟨a, _, _, (many : Int) + 1, rfl, hM3, by omega, by omega, by omega, fun k A4 k0 k1 hM4 => ?_⟩
  refine ⟨by omega, by omega, ?_⟩
  have hLl2 : L.length ≤ many := by omega
  have hM4' := hM4.mono (m := n + 400000) (by omega)
  clear hLl hM3 hM4 hM1 hM2
  refine rFor_inv (fun i e A => (∃ x y, e = [some (.ref a), some (.int (many : Nat)), some (.int (ph : Nat)), some (.int most), some (.tup (T.map encT)), some (.fl (laps.map .int)), some (.ref p), x, y, none]) ∧ ∃ L : List Ln, L.length ≤ many + i ∧ (∀ l ∈ L, LnOk T l ∧ BalS laps l) ∧ MH a (n + 400000 + 6000 * i) (updA R p (.lst (L.map (encL T)))) A) ⟨⟨_, _, rfl⟩, L, by omega, hL, hM4'⟩ ?_ ?_
  · clear hM4' hL hLl2 L
    rintro i x e A hx ⟨⟨u, w, rfl⟩, L, hLl, hL, hA⟩ N hN
    obtain ⟨hi, rfl⟩ := rng_get hx
    walk_at "dx"
    rw [ls_ref (hA.get updA_same)]
    refine ⟨a, _, _, (many : Int), rfl, hA, by omega, by omega, by omega, fun one A5 o0 o1 hM5 => ?_⟩
    refine ⟨a, _, _, (many : Int), rfl, hM5, by omega, by omega, by omega, fun two A6 w0 w1 hM6 => ?_⟩
    refine ⟨a, _, _, T, laps, one.toNat, two.toNat, _, by rw [Int.toNat_of_nonneg o0, Int.toNat_of_nonneg w0], .inl rfl, tok, by omega, hlaps, by omega, by omega, hM6, by omega, fun l A7 lo lb hM7 => ?_⟩
    walk_at "dx"
    refine nApp_lst (hM7.get updA_same) (by rw [List.length_map]; exact Nat.lt_of_lt_of_le (by omega : _ < 1000) (by decide)) ⟨trivial, hN _ _ ⟨⟨_, _, rfl⟩, L ++ [l], by rw [List.length_append]; simp; omega, fun z m => (List.mem_append.mp m).elim (hL z) (fun m => by rw [List.mem_singleton] at m; rw [m]; exact ⟨lo, lb⟩), ?_⟩⟩
    rw [List.map_append]
    exact (hM7.put2 (o := .lst (L.map (encL T) ++ [l].map (encL T)))).mono (by omega)
  clear hM4' hL hLl2 L
  rintro e A5 ⟨⟨u2, w2, rfl⟩, L, hLl, hL, hM5⟩
  rw [rng_len] at hLl hM5
  walk_at "dx"
  refine ⟨by simp, fun r hr => ?_⟩
  have hRr := hM5.non hr
  have hpr : p ≠ r := fun e => by subst e; rw [updA_same] at hRr; cases hRr
  have hRr2 : R r = none := by rw [updA_ne hpr.symm] at hRr; exact hRr
  have hM6 := (hM5.new (o := .lst []) hr).mono (m := n + 600000) (by omega)
  refine ⟨fun m e A => e = [some (.ref a), some (.int (many : Nat)), some (.int (ph : Nat)), some (.int most), some (.tup (T.map encT)), some (.fl (laps.map .int)), some (.ref p), u2, w2, some (.ref r)] ∧ ∃ L O : List Ln, m = L.length ∧ L.length + O.length ≤ 40 ∧ (∀ l ∈ L, LnOk T l ∧ BalS laps l) ∧ (∀ l ∈ O, LnOk T l ∧ BalS laps l) ∧ MH a (n + 600000 + 10 * O.length) (updA (updA R p (.lst (L.map (encL T)))) r (.lst (O.map (encL T)))) A, ⟨_, rfl, L, [], rfl, by simp; omega, hL, (fun l m => by cases m), hM6⟩, ?_⟩
  clear hM5 hM6 hL hLl hRr hr L
  rintro m e A ⟨rfl, L, O, rfl, hLO, hL, hO, hA⟩
  refine ⟨Nat.zero_le _, ?_⟩
  have hgL : A p = some (.lst (L.map (encL T))) := hA.get (by rw [updA_ne hpr, updA_same])
  walk_at "dx"
  refine ei_nil (encLs_ok (fun l m => (hL l m).1) tok.ts) (.inl ⟨ls_ref hgL, rfl⟩) ?_
  cases L with
  | nil =>
    walk_at "dx"
    rw [sqOf_ref (xs := O.map (encL T)) (hA.get updA_same)]
    refine ⟨by simp; decide, ?_⟩
    exact Cv.of (q ⟨T, O⟩ laps A ⟨tok.len, by show O.length ≤ 60; omega, tok.ts, tok.nod, fun l m => (hO l m).1⟩ Tl ⟨by show laps.length = T.length; omega, hlaps2, fun l m => (hO l m).2, by show O.length ≤ 40; omega, fun t m => Nat.le_trans (tdl t m) h3⟩ (((hA.forget (by rw [updA_ne hpr.symm]; exact hRr2)).forget hRp).mono (by simp at hLO; omega)))
  | cons l0 L0 =>
    have hlen : ((((l0 :: L0).map (encL T)).length : Nat) : Int) = (L0.length : Int) + 1 := by simp
    walk_at "dx"
    rw [ls_ref (xs := O.map (encL T)) (hA.get updA_same)]
    walk_at "dx"
    rw [ls_ref hgL]
    walk_at "dx"
    rw [lenA_ls (ls_ref hgL)]
    simp only [List.length_cons] at hLO
    refine ⟨a, _, _, _, rfl, hA, by omega, by rw [hlen]; omega, by rw [hlen]; omega, fun v A7 v0 v1 hM7 => ?_⟩
    rw [hlen] at v1
    have hv : v.toNat < (l0 :: L0).length := by simp; omega
    have hgv : ((l0 :: L0).map (encL T))[v.toNat]? = some (encL T (l0 :: L0)[v.toNat]) := by rw [List.getElem?_map, List.getElem?_eq_getElem hv]; rfl
    have hgL7 : A7 p = some (.lst ((l0 :: L0).map (encL T))) := hM7.get (by rw [updA_ne hpr, updA_same])
    walk_at "dx"
    refine nPopI_at hgL7 v0 (by simp; omega) hgv ?_
    walk_at "dx"
    have hM8 := hM7.put (p := p) (o := .lst (((l0 :: L0).map (encL T)).eraseIdx v.toNat)) (by rw [updA_ne hpr, updA_same])
    rw [updA_comm hpr.symm, updA_upd] at hM8
    refine nApp_lst (hM8.get updA_same) (by rw [List.length_map]; exact Nat.lt_of_lt_of_le (by omega : _ < 1000) (by decide)) ?_
    have hM9 := hM8.put2 (o := .lst (O.map (encL T) ++ [encL T (l0 :: L0)[v.toNat]]))
    have elen : ((l0 :: L0).eraseIdx v.toNat).length = L0.length := by rw [List.length_eraseIdx_of_lt hv]; simp
    refine ⟨((l0 :: L0).eraseIdx v.toNat).length, by rw [elen]; simp, rfl, (l0 :: L0).eraseIdx v.toNat, O ++ [(l0 :: L0)[v.toNat]], rfl, by rw [elen, List.length_append]; simp; omega, fun z m => hL z (List.mem_of_mem_eraseIdx m), fun z m => (List.mem_append.mp m).elim (hO z) (fun m => by rw [List.mem_singleton] at m; rw [m]; exact hL _ (List.getElem_mem hv)), ?_⟩
    rw [List.map_append, map_erase]
    exact hM9.mono (by rw [List.length_append]; simp; omega)

theorem set_cut {α : Type} {xs : List α} {i : Nat} {x : α} (h : i < xs.length) : xs.take i ++ [x] ++ xs.drop (i + 1) = xs.set i x := by
  rw [List.set_eq_take_append_cons_drop, if_pos h, List.append_assoc]; rfl
def sp__law_bent : Spa := fun as A Q => ∃ (a : Addr) (n : Nat) (R : AHp) (G : Gr), as = [.ref a, encG G] ∧ GoodG G ∧ MH a n R A ∧ n < 2 ^ 30 ∧ ∀ G' A', GoodG G' → G'.tasks = G.tasks → G'.lines.length = G.lines.length → MH a (n + 10) R A' → Q (encG G') A'
def t__law_bent : TSa :=
  (sSeq (sIf (vTest (aOp eqW (aOp ixV (vVar 1) (aC (.int 1))) (aTup aNil)))
      (sRet (vVar 1))
      sNext)
    (sSeq (sAsg (aCall sp__law_next (aCons (vVar 0) (aCons (aCB vLen (aCons (aOp ixV (vVar 1) (aC (.int 1))) aNil)) aNil))) (hName 2))
    (sSeq (sAsg (aOp ixV (aOp ixV (vVar 1) (aC (.int 1))) (vVar 2)) (kTup 5 (kCons (hName 3) (kCons (hName 4) (kCons (hName 5) (kCons (hName 6) (kCons (hName 7) kNil)))))))
    (sSeq (sAsg (aCall sp__law_next (aCons (vVar 0) (aCons (aCB vLen (aCons (vVar 5) aNil)) aNil))) (hName 8))
    (sSeq (sAsg (aOp addR (aOp addR (aSl slV (vVar 5) aNoPart (vPart (vVar 8))) (aTup (aCons (aIf (vTest (aOp ltR (aOp ixV (vVar 5) (vVar 8)) (aC (.int 9)))) (aOp addR (aOp ixV (vVar 5) (vVar 8)) (aC (.int 1))) (aC (.int 8))) aNil))) (aSl slV (vVar 5) (vPart (aOp addR (vVar 8) (aC (.int 1)))) aNoPart)) (hName 5))
    (sRet (aTup (aCons (aOp ixV (vVar 1) (aC (.int 0))) (aCons (aOp addR (aOp addR (aSl slV (aOp ixV (vVar 1) (aC (.int 1))) aNoPart (vPart (vVar 2))) (aTup (aCons (aTup (aCons (vVar 3) (aCons (vVar 4) (aCons (vVar 5) (aCons (vVar 6) (aCons (vVar 7) aNil)))))) aNil))) (aSl slV (aOp ixV (vVar 1) (aC (.int 1))) (vPart (aOp addR (vVar 2) (aC (.int 1)))) aNoPart)) aNil)))))))))
theorem rd__law_bent (as : List AV) (AH : AHp) (Q : AV → AHp → Prop) (h : sp__law_bent as AH Q) : t__law_bent { nx := fun _ A2 => Cv Q .non A2, rt := Cv Q } (startA ["m", "graph", "at", "one", "other", "gives", "takes", "stock", "spot"] as) AH := by
  obtain ⟨a, n, R, G, rfl, ok, hM, hn, q⟩ := h
  have h3 := ok.lin
  refine ⟨Nat.zero_le _, ?_⟩
  walk_at "dx"
  refine ei_nil (xs := G.lines.map (encL G.tasks)) (encLs_ok ok.ls ok.ts) (.inr ⟨rfl, rfl⟩) ?_
  by_cases he : G.lines = []
  · rw [he]
    exact Cv.of (q G AH ok rfl rfl (hM.mono (by omega)))
  have hpos : 0 < G.lines.length := List.length_pos_iff.mpr he
  rw [show (G.lines.map (encL G.tasks)).isEmpty = false by cases hh : G.lines with | nil => exact absurd hh he | cons x r => rfl]
  walk_at "dx"
  refine ⟨a, n, R, _, rfl, hM, by omega, by rw [List.length_map]; omega, by rw [List.length_map]; omega, fun v A1 v0 v1 hM1 => ?_⟩
  rw [List.length_map] at v1
  have hj : v.toNat < G.lines.length := by omega
  have lo := ok.ls _ (List.mem_of_getElem? (lnAt_get hj))
  have gl := lo.glen ok.ts
  walk_at "dx"
  rw [gt_tup (v := encL G.tasks (lnAt G v.toNat)) v0 (by rw [List.getElem?_map, lnAt_get hj]; rfl)]
  generalize hl : lnAt G v.toNat = l at lo gl ⊢
  walk_at "dx"
  refine ⟨a, _, R, _, rfl, hM1, by omega, by rw [List.length_map]; omega, by rw [List.length_map]; omega, fun s A2 s0 s1 hM2 => ?_⟩
  rw [List.length_map] at s1
  have hs : s.toNat < l.gs.length := by omega
  have hgs := fun (B : AHp) => (gt_tup (A := B) s0 (ints_get hs) : gtR0 B (.tup (l.gs.map .int)) (.int s) = some (.int (l.gs.getD s.toNat 0)))
  have gb := getD_nn lo.gs s.toNat
  walk_at "dx"
  rw [hgs]
  have fin : ∀ w : Int, 1 ≤ w → w ≤ 9 → (sSeq (sAsg (aOp addR (aOp addR (aSl slV (vVar 5) aNoPart (vPart (vVar 8))) (aTup (aCons (aC (.int w)) aNil))) (aSl slV (vVar 5) (vPart (aOp addR (vVar 8) (aC (.int 1)))) aNoPart)) (hName 5))
    (sRet (aTup (aCons (aOp ixV (vVar 1) (aC (.int 0))) (aCons (aOp addR (aOp addR (aSl slV (aOp ixV (vVar 1) (aC (.int 1))) aNoPart (vPart (vVar 2))) (aTup (aCons (aTup (aCons (vVar 3) (aCons (vVar 4) (aCons (vVar 5) (aCons (vVar 6) (aCons (vVar 7) aNil)))))) aNil))) (aSl slV (aOp ixV (vVar 1) (aC (.int 1))) (vPart (aOp addR (vVar 2) (aC (.int 1)))) aNoPart)) aNil)))))
        { nx := fun _ A2 => Cv Q .non A2, rt := Cv Q } [some (.ref a), some (encG G), some (.int v), some (.str (nmAt G.tasks l.o)), some (.str (nmAt G.tasks l.t)), some (.tup (l.gs.map .int)), some (.tup (l.ts.map .int)), some (.int l.st), some (.int s)] A2 := by
    intro w w1 w9
    have e1 : cutA (l.gs.map AV.int) none (some s) ++ [AV.int w] ++ cutA (l.gs.map AV.int) (some (s + 1)) none = (l.gs.set s.toNat w).map .int := by
      rw [cut_to s0, cut_from (by omega), show (s + 1).toNat = s.toNat + 1 by omega, set_cut (by rw [List.length_map]; exact hs), set_ints]
    have c1 : (cutA (l.gs.map AV.int) none (some s)).length ≤ 24 := by rw [cut_to s0, List.length_take, List.length_map]; omega
    have c2 : (cutA (l.gs.map AV.int) (some (s + 1)) none).length ≤ 24 := by rw [cut_from (by omega), List.length_drop, List.length_map]; omega
    refine ⟨by simp; decide, ?_⟩
    refine ⟨by simp only [List.length_cons, List.length_nil]; exact sz8 (by omega), ?_⟩
    refine ⟨by simp only [List.length_append, List.length_cons, List.length_nil]; exact sz8 (by omega), ?_⟩
    rw [e1]
    have lo2 : LnOk G.tasks { l with gs := l.gs.set s.toNat w } := by
      obtain ⟨ta, ha, hb⟩ := lo.ot
      refine ⟨⟨ta, ha, by show (l.gs.set s.toNat w).length = _; rw [List.length_set]; exact hb⟩, lo.tt, mem_set9 lo.gs (by omega), lo.ts, ?_, lo.tp, lo.st⟩
      have z := sum_le (mem_set9 (i := s.toNat) (v := 0) lo.gs (by omega))
      rw [sum_set hs] at z
      show 0 < (l.gs.set s.toNat w).sum
      rw [sum_set hs]
      omega
    have e2 : cutA (G.lines.map (encL G.tasks)) none (some v) ++ [encL G.tasks { l with gs := l.gs.set s.toNat w }] ++ cutA (G.lines.map (encL G.tasks)) (some (v + 1)) none = (G.lines.set v.toNat { l with gs := l.gs.set s.toNat w }).map (encL G.tasks) := by
      rw [cut_to v0, cut_from (by omega), show (v + 1).toNat = v.toNat + 1 by omega, set_cut (by rw [List.length_map]; exact hj), List.map_set]
    have c3 : (cutA (G.lines.map (encL G.tasks)) none (some v)).length ≤ 60 := by rw [cut_to v0, List.length_take, List.length_map]; omega
    have c4 : (cutA (G.lines.map (encL G.tasks)) (some (v + 1)) none).length ≤ 60 := by rw [cut_from (by omega), List.length_drop, List.length_map]; omega
    refine ⟨by simp; decide, ?_⟩
    refine ⟨by simp; decide, ?_⟩
    refine ⟨by simp only [List.length_cons, List.length_nil]; exact sz8 (by omega), ?_⟩
    refine ⟨by simp only [List.length_append, List.length_cons, List.length_nil]; exact sz8 (by omega), ?_⟩
    refine ⟨by simp; decide, ?_⟩
    have := q ⟨G.tasks, G.lines.set v.toNat { l with gs := l.gs.set s.toNat w }⟩ A2 ⟨ok.len, by show (G.lines.set _ _).length ≤ 60; rw [List.length_set]; exact h3, ok.ts, ok.nod, fun z m => ?_⟩ rfl (by show (G.lines.set _ _).length = _; rw [List.length_set]) (hM2.mono (by omega))
    · unfold encG at this
      rw [← e2] at this
      exact Cv.of this
    · rcases List.mem_or_eq_of_mem_set m with m | rfl
      · exact ok.ls z m
      · exact lo2
  by_cases h9 : l.gs.getD s.toNat 0 < 9
  · walk_at "dx"
    refine dT (by simp only [decide_eq_true_eq]; exact h9) ?_
    walk_at "dx"
    rw [hgs]
    exact fin _ (by omega) (by omega)
  · walk_at "dx"
    refine dF (by simp only [decide_eq_true_eq]; exact h9) ?_
    exact fin 8 (by omega) (by omega)
end D

set_option Elab.async false
set_option linter.all false
set_option maxRecDepth 100000
set_option maxHeartbeats 4000000
namespace D
open PySem PySem.Spec L2
/-! ### what a firing does to the stocks -/
theorem leadBy_nodup (f : Ln → Nat) (ls : List Ln) (k : Nat) : (leadBy f ls k).Nodup := by
  unfold leadBy
  have h : (ls.zipIdx.map (·.2)).Nodup := by
    have e : ls.zipIdx.map (·.2) = List.range' 0 ls.length := List.zipIdx_map_snd ..
    rw [e]
    exact List.nodup_range'
  exact List.Sublist.nodup (List.Sublist.map _ List.filter_sublist) h
theorem getD_set {ns : List Int} {i j : Nat} {v : Int} (h : i < ns.length) : (ns.set i v).getD j 0 = if j = i then v else ns.getD j 0 := by
  rw [List.getD_eq_getElem?_getD, List.getD_eq_getElem?_getD, List.getElem?_set]
  by_cases e : i = j
  · subst e; rw [if_pos rfl, if_pos h, if_pos rfl]; rfl
  · rw [if_neg e, if_neg (Ne.symm e)]
theorem subAll_get {f : Nat → Int} {j : Nat} : ∀ {js : List Nat} {st : List Int}, js.Nodup → (∀ i ∈ js, i < st.length) → (subAll f js st).getD j 0 = st.getD j 0 + if j ∈ js then f j else 0
  | [], st, _, _ => by rw [if_neg (by simp)]; show st.getD j 0 = _; omega
  | i :: js, st, nd, h => by
    have hi := h i (List.mem_cons_self ..)
    have ih := subAll_get (f := f) (j := j) (js := js) (st := st.set i (st.getD i 0 + f i)) (List.nodup_cons.mp nd).2 fun k m => by rw [List.length_set]; exact h k (List.mem_cons_of_mem _ m)
    show (subAll f js (st.set i (st.getD i 0 + f i))).getD j 0 = _
    rw [ih, getD_set hi]
    have hn := (List.nodup_cons.mp nd).1
    by_cases e : j = i
    · subst e
      rw [if_pos rfl, if_neg hn, if_pos (List.mem_cons_self ..)]
      omega
    · rw [if_neg e]
      by_cases m : j ∈ js
      · rw [if_pos m, if_pos (List.mem_cons_of_mem _ m)]
      · rw [if_neg m, if_neg (fun q => (List.mem_cons.mp q).elim e m)]
theorem lead_iff {G : Gr} {f : Ln → Nat} {j k : Nat} (h : j < G.lines.length) : j ∈ leadBy f G.lines k ↔ f (lnAt G j) = k := by
  rw [leadBy_mem]
  constructor
  · rintro ⟨l, hl, hk⟩; rw [lnAt_of hl]; exact hk
  · intro hk; exact ⟨_, lnAt_get h, hk⟩
theorem lead_lt {G : Gr} {f : Ln → Nat} {j k : Nat} (h : j ∈ leadBy f G.lines k) : j < G.lines.length := by
  obtain ⟨l, hl, _⟩ := leadBy_mem.mp h
  exact (List.getElem?_eq_some_iff.mp hl).1
theorem fire_st {G : Gr} {S : Sta} (so : GoodS G S) {k j : Nat} (hj : j < G.lines.length) :
    (fireS G S k).st.getD j 0 = S.st.getD j 0 - (if (lnAt G j).t = k then takeAt G S k j else 0) + if (lnAt G j).o = k then giveAt G S k j else 0 := by
  unfold fireS
  show (subAll _ _ (subAll _ _ S.st)).getD j 0 = _
  rw [subAll_get (leadBy_nodup ..) (fun i m => by rw [subAll_len, so.sl]; exact lead_lt m), subAll_get (leadBy_nodup ..) (fun i m => by rw [so.sl]; exact lead_lt m)]
  by_cases h1 : (lnAt G j).t = k <;> by_cases h2 : (lnAt G j).o = k <;> simp only [lead_iff hj, h1, h2, if_true, if_false, ite_true, ite_false] <;> omega
/-! ### states that counts lead to -/
structure Run (G : Gr) (S : Sta) (cs : List Int) (b : Int) : Prop where
  cl : cs.length = G.tasks.length
  cb : ∀ c ∈ cs, (0 : Int) ≤ c ∧ c ≤ b
  pl : S.ph.length = G.tasks.length
  sl : S.st.length = G.lines.length
  ph : ∀ k a, G.tasks[k]? = some a → S.ph.getD k 0 = cs.getD k 0 % (a.ds.length : Nat)
  st : ∀ j, j < G.lines.length → S.st.getD j 0 = (lnAt G j).st + counted (lnAt G j).gs (cs.getD (lnAt G j).o 0) - counted (lnAt G j).ts (cs.getD (lnAt G j).t 0)
  nn : ∀ j, j < G.lines.length → 0 ≤ S.st.getD j 0
variable {G : Gr} {S : Sta} {cs : List Int} {b : Int}
theorem getD_b {ns : List Int} {b : Int} (h : ∀ c ∈ ns, (0 : Int) ≤ c ∧ c ≤ b) (hb : 0 ≤ b) (i : Nat) : 0 ≤ ns.getD i 0 ∧ ns.getD i 0 ≤ b := by
  rw [List.getD_eq_getElem?_getD]
  cases e : ns[i]? with
  | none => simp; exact hb
  | some d => exact h d (List.mem_of_getElem? e)
theorem counted_b {ns : List Int} (ok : NumsOk ns) {c b : Int} (h : 0 ≤ c ∧ c ≤ b) : 0 ≤ counted ns c ∧ counted ns c ≤ 9 * b := by
  have := counted_ub ok c.toNat
  rw [Int.toNat_of_nonneg h.1] at this
  omega
theorem lnAt_ok (ok : GoodG G) {j : Nat} (h : j < G.lines.length) : LnOk G.tasks (lnAt G j) := ok.ls _ (List.mem_of_getElem? (lnAt_get h))
theorem Run.good (ok : GoodG G) (r : Run G S cs b) (hb : 0 ≤ b ∧ b ≤ 1000) : GoodS G S where
  pl := r.pl
  sl := r.sl
  pb := fun p m => by
    obtain ⟨k, hk, e⟩ := List.getElem_of_mem m
    have hk2 : k < G.tasks.length := by rw [← r.pl]; exact hk
    have e1 := r.ph k _ (List.getElem?_eq_getElem hk2)
    rw [List.getD_eq_getElem?_getD, List.getElem?_eq_getElem hk, e] at e1
    have hl := (ok.ts _ (List.getElem_mem hk2)).len
    simp only [Option.getD_some] at e1
    rw [e1]
    have z0 := Int.emod_nonneg (cs.getD k 0) (by omega : ((G.tasks[k].ds.length : Nat) : Int) ≠ 0)
    have z1 := Int.emod_lt_of_pos (cs.getD k 0) (by omega : 0 < ((G.tasks[k].ds.length : Nat) : Int))
    omega
  sb := fun p m => by
    obtain ⟨j, hj, e⟩ := List.getElem_of_mem m
    have hj2 : j < G.lines.length := by rw [← r.sl]; exact hj
    have ep : S.st.getD j 0 = p := by rw [List.getD_eq_getElem?_getD, List.getElem?_eq_getElem hj, e]; rfl
    have e1 := r.st j hj2
    have e2 := r.nn j hj2
    have lo := lnAt_ok ok hj2
    have g1 := counted_b (lo.gok ok.ts) (getD_b r.cb hb.1 (lnAt G j).o)
    have g2 := counted_b (lo.tok ok.ts) (getD_b r.cb hb.1 (lnAt G j).t)
    have g3 := lo.st
    rw [ep] at e1 e2
    omega
  pp := fun p m => by
    obtain ⟨k, hk, e⟩ := List.getElem_of_mem m
    rw [List.getElem_zip] at e
    have hk1 : k < S.ph.length := by rw [List.length_zip] at hk; omega
    have hk2 : k < G.tasks.length := by rw [List.length_zip] at hk; omega
    have e1 := r.ph k _ (List.getElem?_eq_getElem hk2)
    rw [List.getD_eq_getElem?_getD, List.getElem?_eq_getElem hk1] at e1
    simp only [Option.getD_some] at e1
    have hl := (ok.ts _ (List.getElem_mem hk2)).len
    rw [← e]
    show S.ph[k] < ((G.tasks[k].ds.length : Nat) : Int)
    rw [e1]
    exact Int.emod_lt_of_pos _ (by omega)
theorem Run.take (ok : GoodG G) (r : Run G S cs b) {j k : Nat} (hj : j < G.lines.length) (hk : (lnAt G j).t = k) : takeAt G S k j = counted (lnAt G j).ts (cs.getD k 0 + 1) - counted (lnAt G j).ts (cs.getD k 0) := by
  have lo := lnAt_ok ok hj
  obtain ⟨a, h1, h2⟩ := lo.tt
  rw [hk] at h1
  rw [counted_succ (lo.tok ok.ts).ne]
  unfold takeAt
  rw [r.ph k a h1, h2]
  omega
theorem Run.give (ok : GoodG G) (r : Run G S cs b) {j k : Nat} (hj : j < G.lines.length) (hk : (lnAt G j).o = k) : giveAt G S k j = counted (lnAt G j).gs (cs.getD k 0 + 1) - counted (lnAt G j).gs (cs.getD k 0) := by
  have lo := lnAt_ok ok hj
  obtain ⟨a, h1, h2⟩ := lo.ot
  rw [hk] at h1
  rw [counted_succ (lo.gok ok.ts).ne]
  unfold giveAt
  rw [r.ph k a h1, h2]
  omega
/-- enough firings are done for the next one -/
def Enough (G : Gr) (cs : List Int) (j : Nat) : Prop := counted (lnAt G j).ts (cs.getD (lnAt G j).t 0 + 1) - (lnAt G j).st ≤ counted (lnAt G j).gs (cs.getD (lnAt G j).o 0)
theorem Run.ready (ok : GoodG G) (r : Run G S cs b) {k : Nat} : readyK G S k = true ↔ ∀ j, j < G.lines.length → (lnAt G j).t = k → Enough G cs j := by
  unfold readyK
  rw [List.all_eq_true]
  constructor
  · intro h j hj hk
    have h1 := of_decide_eq_true (h j ((lead_iff hj).mpr hk))
    rw [r.take ok hj hk, r.st j hj] at h1
    unfold Enough
    rw [hk] at h1 ⊢
    omega
  · intro h j m
    have hj := lead_lt m
    have hk := (lead_iff hj).mp m
    have h1 := h j hj hk
    apply decide_eq_true
    rw [r.take ok hj hk, r.st j hj]
    unfold Enough at h1
    rw [hk] at h1 ⊢
    omega
theorem Run.begin_ (ok : GoodG G) : Run G (beginS G) (List.replicate G.tasks.length 0) 0 where
  cl := List.length_replicate ..
  cb := fun c m => by rw [(List.mem_replicate.mp m).2]; decide
  pl := List.length_replicate ..
  sl := List.length_map ..
  ph := fun k a h => by
    have e : ∀ k, (List.replicate G.tasks.length (0 : Int)).getD k 0 = 0 := fun k => by
      rw [List.getD_eq_getElem?_getD, List.getElem?_replicate]; split <;> rfl
    show (List.replicate G.tasks.length (0 : Int)).getD k 0 = _
    rw [e]; simp
  st := fun j h => by
    have e : ∀ k, (List.replicate G.tasks.length (0 : Int)).getD k 0 = 0 := fun k => by
      rw [List.getD_eq_getElem?_getD, List.getElem?_replicate]; split <;> rfl
    rw [e, e, counted_zero, counted_zero]
    show (G.lines.map Ln.st).getD j 0 = _
    rw [List.getD_eq_getElem?_getD, List.getElem?_map, lnAt_get h]
    simp
  nn := fun j h => by
    show 0 ≤ (G.lines.map Ln.st).getD j 0
    rw [List.getD_eq_getElem?_getD, List.getElem?_map, lnAt_get h]
    exact (lnAt_ok ok h).st.1
theorem Run.fire (ok : GoodG G) (r : Run G S cs b) (hb : 0 ≤ b ∧ b ≤ 1000) {k : Nat} (hk : k < G.tasks.length) (hr : readyK G S k = true) : Run G (fireS G S k) (cs.set k (cs.getD k 0 + 1)) (b + 1) := by
  have hc := getD_b r.cb hb.1 k
  have hkc : k < cs.length := by rw [r.cl]; exact hk
  have so := r.good ok hb
  have stt : ∀ j, j < G.lines.length → (fireS G S k).st.getD j 0 = (lnAt G j).st + counted (lnAt G j).gs ((cs.set k (cs.getD k 0 + 1)).getD (lnAt G j).o 0) - counted (lnAt G j).ts ((cs.set k (cs.getD k 0 + 1)).getD (lnAt G j).t 0) := fun j hj => by
    rw [fire_st so hj, r.st j hj, getD_set hkc, getD_set hkc]
    by_cases h1 : (lnAt G j).t = k <;> by_cases h2 : (lnAt G j).o = k
    · rw [if_pos h1, if_pos h2, if_pos h1, if_pos h2, r.take ok hj h1, r.give ok hj h2, h1, h2]; omega
    · rw [if_pos h1, if_neg h2, if_pos h1, if_neg h2, r.take ok hj h1, h1]; omega
    · rw [if_neg h1, if_pos h2, if_neg h1, if_pos h2, r.give ok hj h2, h2]; omega
    · rw [if_neg h1, if_neg h2, if_neg h1, if_neg h2]; omega
  refine ⟨by rw [List.length_set]; exact r.cl, fun c m => ?_, ?_, ?_, fun i a ha => ?_, stt, fun j hj => ?_⟩
  · rcases List.mem_or_eq_of_mem_set m with m | rfl
    · have := r.cb c m; omega
    · omega
  · show (S.ph.set _ _).length = _
    rw [List.length_set]; exact r.pl
  · show (subAll _ _ (subAll _ _ S.st)).length = _
    rw [subAll_len, subAll_len]; exact r.sl
  · show (S.ph.set k _).getD i 0 = _
    rw [getD_set (by rw [r.pl]; exact hk), getD_set hkc]
    by_cases e : i = k
    · subst e
      rw [if_pos rfl, if_pos rfl, r.ph i a ha, List.getD_eq_getElem?_getD (l := G.tasks), ha]
      show (cs.getD i 0 % ((a.ds.length : Nat) : Int) + 1) % ((a.ds.length : Nat) : Int) = _
      rw [Int.emod_add_emod]
    · rw [if_neg e, if_neg e]; exact r.ph i a ha
  · rw [fire_st so hj]
    have n0 := r.nn j hj
    have lo := lnAt_ok ok hj
    have t0 := getD_nn lo.ts (S.ph.getD k 0).toNat
    have g0 := getD_nn lo.gs (S.ph.getD k 0).toNat
    have hge : 0 ≤ giveAt G S k j := g0.1
    by_cases h1 : (lnAt G j).t = k
    · have := of_decide_eq_true (List.all_eq_true.mp hr j ((lead_iff hj).mpr h1))
      rw [if_pos h1]
      split <;> omega
    · rw [if_neg h1]
      split <;> omega
theorem need_enough {j : Nat} {v : Int} (h : NeedIs (lnAt G j) (cs.getD (lnAt G j).t 0) v) (hc : 0 ≤ cs.getD (lnAt G j).o 0) : v ≤ cs.getD (lnAt G j).o 0 ↔ Enough G cs j := h.2 _ hc
end D

set_option Elab.async false
set_option linter.all false
set_option maxRecDepth 100000
set_option maxHeartbeats 4000000
namespace D
open PySem PySem.Spec L2
local macro_rules | `(tactic| walk_at "dx") => `(tactic| conv => whnf)
theorem c_isnot {X : Cx} : OpR X (compareOp .IsNot) (lf2 X.K (isNR true)) := by
  intro pins s σ H x y v u Q I rx ry ⟨a, b, A, Q', ra, rb, g, ⟨hb, q⟩, P⟩
  subst hb
  cases rb
  refine op_notN pins s σ H _ _ v u Q I rx ry ⟨rfl, ?_⟩
  cases ra <;> exact P _ _ _ _ (.bl _) g .refl q
/-! ### == of a value with itself -/
mutual
theorem eqv_refl : ∀ d : PyData, d.canLay0 = true → PyData.eqv d d = true
  | .none, _ => by simp only [PyData.eqv]
  | .bool _, _ => by simp only [PyData.eqv, beq_self_eq_true]
  | .int _, _ => by simp only [PyData.eqv, beq_self_eq_true]
  | .str _, _ => by simp only [PyData.eqv, beq_self_eq_true]
  | .list xs, h => by
    simp only [PyData.eqv]
    exact eqvAll_refl xs (by simpa only [PyData.canLay0] using h)
  | .tuple xs, h => by
    simp only [PyData.eqv]
    exact eqvAll_refl xs (by simpa only [PyData.canLay0] using h)
  | .dict _, h => by simp only [PyData.canLay0] at h; cases h
theorem eqvAll_refl : ∀ ds : List PyData, PyData.canLayAll0 ds = true → PyData.eqvAll ds ds = true
  | [], _ => by simp only [PyData.eqvAll]
  | x :: xs, h => by
    simp only [PyData.canLayAll0, Bool.and_eq_true] at h
    simp only [PyData.eqvAll, eqv_refl x h.1, eqvAll_refl xs h.2, Bool.and_self]
end
theorem ei_refl {neg : Bool} {A : AHp} {x : List AV} {Q : AV → AHp → Prop} (h : OkA 60 (.tup x)) (q : Q (.bl (if neg then false else true)) A) : eqI neg (.tup x) (.tup x) A Q := by
  obtain ⟨d, a, b, c⟩ := h
  unfold eqI
  refine ⟨d, d, a, a, shaped_mk b (by omega), shaped_mk b (by omega), ?_⟩
  rw [eqv_refl d b]
  cases neg <;> exact q
theorem encS_ok (S : Sta) : OkA 2 (encS S) := .tup (.cons (.tup (.ints _)) (.cons (.tup (.ints _)) .nil))
/-! ### gave, took -/
def sp_gave : Spa := fun as A Q => ∃ (G : Gr) (j : Nat) (c : Int), as = [encG G, .int (j : Nat), .int c] ∧ GoodG G ∧ j < G.lines.length ∧ 0 ≤ c ∧ c ≤ 100000 ∧ Q (.int (counted (lnAt G j).gs c)) A
def t_gave : TSa :=
  (sSeq (sDrop (aCall sp_look_at_line (aCons (vVar 0) (aCons (vVar 1) aNil))))
    (sSeq (sDrop (aCall sp_need_number (aCons (vVar 2) (aCons (aC (.int 0)) (aCons (aC (.int 100000)) aNil)))))
    (sRet (aCall sp_counted (aCons (aOp ixV (aOp ixV (aOp ixV (vVar 0) (aC (.int 1))) (vVar 1)) (aC (.int 2))) (aCons (vVar 2) aNil))))))
theorem rd_gave (as : List AV) (AH : AHp) (Q : AV → AHp → Prop) (h : sp_gave as AH Q) : t_gave { nx := fun _ A2 => Cv Q .non A2, rt := Cv Q } (startA ["graph", "line", "count"] as) AH := by
  obtain ⟨G, j, c, rfl, ok, hj, h0, h1, q⟩ := h
  refine ⟨G, _, rfl, ok, by omega, by omega, ?_⟩
  refine ⟨c, 0, 100000, rfl, ⟨h0, h1⟩, ?_⟩
  walk_at "dx"
  rw [gt_tup (v := encL G.tasks (lnAt G j)) (by omega) (by rw [List.getElem?_map, Int.toNat_natCast, lnAt_get hj]; rfl)]
  exact ⟨_, c, rfl, (lnAt_ok ok hj).gok ok.ts, Cv.of q⟩
def sp_took : Spa := fun as A Q => ∃ (G : Gr) (j : Nat) (c : Int), as = [encG G, .int (j : Nat), .int c] ∧ GoodG G ∧ j < G.lines.length ∧ 0 ≤ c ∧ c ≤ 100000 ∧ Q (.int (counted (lnAt G j).ts c)) A
def t_took : TSa :=
  (sSeq (sDrop (aCall sp_look_at_line (aCons (vVar 0) (aCons (vVar 1) aNil))))
    (sSeq (sDrop (aCall sp_need_number (aCons (vVar 2) (aCons (aC (.int 0)) (aCons (aC (.int 100000)) aNil)))))
    (sRet (aCall sp_counted (aCons (aOp ixV (aOp ixV (aOp ixV (vVar 0) (aC (.int 1))) (vVar 1)) (aC (.int 3))) (aCons (vVar 2) aNil))))))
theorem rd_took (as : List AV) (AH : AHp) (Q : AV → AHp → Prop) (h : sp_took as AH Q) : t_took { nx := fun _ A2 => Cv Q .non A2, rt := Cv Q } (startA ["graph", "line", "count"] as) AH := by
  obtain ⟨G, j, c, rfl, ok, hj, h0, h1, q⟩ := h
  refine ⟨G, _, rfl, ok, by omega, by omega, ?_⟩
  refine ⟨c, 0, 100000, rfl, ⟨h0, h1⟩, ?_⟩
  walk_at "dx"
  rw [gt_tup (v := encL G.tasks (lnAt G j)) (by omega) (by rw [List.getElem?_map, Int.toNat_natCast, lnAt_get hj]; rfl)]
  exact ⟨_, c, rfl, (lnAt_ok ok hj).tok ok.ts, Cv.of q⟩
def sp__law_first : Spa := fun as A Q => ∃ G, as = [encG G] ∧ GoodG G ∧ Q (encS (beginS G)) A
def t__law_first : TSa :=
  (sRet (aTup (aCons (aOp mulT (aTup (aCons (aC (.int 0)) aNil)) (aCB vLen (aCons (aOp ixV (vVar 0) (aC (.int 0))) aNil))) (aCons (aCB vTuple (aCons (vLc (jSq (aOp ixV (vVar 0) (aC (.int 1)))) (hName 1) aYes (aOp ixV (vVar 1) (aC (.int 4))) [1]) aNil)) aNil))))
theorem rd__law_first (as : List AV) (AH : AHp) (Q : AV → AHp → Prop) (h : sp__law_first as AH Q) : t__law_first { nx := fun _ A2 => Cv Q .non A2, rt := Cv Q } (startA ["graph", "line"] as) AH := rd_beginning as AH Q h
/-! ### the law's own firing -/
theorem ints_ext {xs ys : List Int} (hl : xs.length = ys.length) (h : ∀ j, j < xs.length → xs.getD j 0 = ys.getD j 0) : xs = ys := by
  apply List.ext_getElem hl
  intro i h1 h2
  have := h i h1
  rw [List.getD_eq_getElem?_getD, List.getD_eq_getElem?_getD, List.getElem?_eq_getElem h1, List.getElem?_eq_getElem h2] at this
  exact this
theorem nm_eq {G : Gr} (ok : GoodG G) {i k : Nat} (hi : i < G.tasks.length) (hk : k < G.tasks.length) : nmAt G.tasks i = nmAt G.tasks k ↔ i = k := by
  constructor
  · intro e
    have h1 := nms_get hi
    have h2 := nms_get hk
    rw [e, ← h2] at h1
    exact (List.getElem?_inj (by unfold nms; rw [List.length_map]; exact hi) ok.nd).mp h1
  · intro e; rw [e]
def sp__law_fired : Spa := fun as A Q => ∃ (G : Gr) (S : Sta) (k : Nat), as = [encG G, encS S, .int (k : Nat)] ∧ GoodG G ∧ GoodS G S ∧ k < G.tasks.length ∧ Q (if readyK G S k = true then encS (fireS G S k) else .non) A
def t__law_fired : TSa :=
  (sSeq (sParV 3 4 (aCons (aCB vListM (aCons (aOp ixV (vVar 1) (aC (.int 0))) aNil)) (aCons (aCB vListM (aCons (aOp ixV (vVar 1) (aC (.int 1))) aNil)) aNil)))
    (sSeq (sParV 5 6 (aCons (aOp ixV (aOp ixV (aOp ixV (vVar 0) (aC (.int 0))) (vVar 2)) (aC (.int 0))) (aCons (aOp ixV (aOp ixV (vVar 1) (aC (.int 0))) (vVar 2)) aNil)))
    (sSeq (sForV (jRg1 (aCons (aCB vLen (aCons (aOp ixV (vVar 0) (aC (.int 1))) aNil)) aNil)) (hName 7)
      (sIf (vTest (aOp eqW (aOp ixV (aOp ixV (aOp ixV (vVar 0) (aC (.int 1))) (vVar 7)) (aC (.int 1))) (vVar 5)))
        (sSeq (sAsg (aOp subR (aOp ixV (vVar 4) (vVar 7)) (aOp ixV (aOp ixV (aOp ixV (aOp ixV (vVar 0) (aC (.int 1))) (vVar 7)) (aC (.int 3))) (vVar 6))) (hSub (vVar 4) (vVar 7) setI))
        (sIf (vTest (aOp ltR (aOp ixV (vVar 4) (vVar 7)) (aC (.int 0))))
          (sRet (aC .non))
          sNext))
        sNext))
    (sSeq (sForV (jRg1 (aCons (aCB vLen (aCons (aOp ixV (vVar 0) (aC (.int 1))) aNil)) aNil)) (hName 7)
      (sIf (vTest (aOp eqW (aOp ixV (aOp ixV (aOp ixV (vVar 0) (aC (.int 1))) (vVar 7)) (aC (.int 0))) (vVar 5)))
        (sAsg (aOp addR (aOp ixV (vVar 4) (vVar 7)) (aOp ixV (aOp ixV (aOp ixV (aOp ixV (vVar 0) (aC (.int 1))) (vVar 7)) (aC (.int 2))) (vVar 6))) (hSub (vVar 4) (vVar 7) setI))
        sNext))
    (sSeq (sAsg (aOp modR (aCB tInt (aCons (aOp addR (vVar 6) (aC (.int 1))) aNil)) (aCB vLen (aCons (aOp ixV (aOp ixV (aOp ixV (vVar 0) (aC (.int 0))) (vVar 2)) (aC (.int 1))) aNil))) (hSub (vVar 3) (vVar 2) setI))
    (sRet (aTup (aCons (aCB vTuple (aCons (vVar 3) aNil)) (aCons (aCB vTuple (aCons (vVar 4) aNil)) aNil)))))))))
theorem rd__law_fired (as : List AV) (AH : AHp) (Q : AV → AHp → Prop) (h : sp__law_fired as AH Q) : t__law_fired { nx := fun _ A2 => Cv Q .non A2, rt := Cv Q } (startA ["graph", "state", "number", "phases", "stocks", "name", "phase", "at"] as) AH := by
  obtain ⟨G, S, k, rfl, ok, so, hk, q⟩ := h
  have h3 := ok.lin
  obtain ⟨a, ha, hn⟩ := task_get hk
  obtain ⟨hkl, hph0, hph1⟩ := so.phk ha
  have gl : ∀ (B : AHp) (j : Nat), j < G.lines.length → gtR0 B (.tup (G.lines.map (encL G.tasks))) (.int (0 + (j : Int))) = some (encL G.tasks (lnAt G j)) := fun B j hj => gt_tup (by omega) (by rw [List.getElem?_map, show (0 + (j : Int)).toNat = j by omega, lnAt_get hj]; rfl)
  walk_at "dx"
  intro p hp
  walk_at "dx"
  intro r hr
  have ne : p ≠ r := fun e => by subst e; rw [updA_same] at hr; cases hr
  have hr3 : AH r = none := by rw [updA_ne ne.symm] at hr; exact hr
  have drop : ∀ o u, SubA AH (updA (updA AH p o) r u) := fun o u b z e => by
    have n1 : b ≠ p := fun e2 => by subst e2; rw [hp] at e; cases e
    have n2 : b ≠ r := fun e2 => by subst e2; rw [hr3] at e; cases e
    rw [updA_ne n2, updA_ne n1]; exact e
  walk_at "dx"
  rw [gt_tup (v := encT a) (by omega) (by rw [List.getElem?_map, Int.toNat_natCast, ha]; rfl)]
  walk_at "dx"
  rw [gt_tup (v := .int (S.ph.getD k 0)) (by omega) (by rw [Int.toNat_natCast]; exact ints_get hkl)]
  refine ⟨by rw [List.length_map]; omega, by rw [List.length_map]; omega, ?_⟩
  rw [List.length_map, Int.toNat_natCast, ← hn]
  refine rFor_inv (fun i e B => (∃ x, e = [some (encG G), some (encS S), some (.int (k : Nat)), some (.ref p), some (.ref r), some (.str (nmAt G.tasks k)), some (.int (S.ph.getD k 0)), x]) ∧ ∃ st : List Int, B = updA (updA AH p (.lst (S.ph.map .int))) r (.lst (st.map .int)) ∧ st.length = G.lines.length ∧
      (∀ j, j < G.lines.length → st.getD j 0 = S.st.getD j 0 - if (lnAt G j).t = k ∧ j < i then takeAt G S k j else 0) ∧ ∀ j, j < i → j < G.lines.length → (lnAt G j).t = k → takeAt G S k j ≤ S.st.getD j 0)
    ⟨⟨_, rfl⟩, S.st, rfl, so.sl, fun j hj => by rw [if_neg (by omega)]; omega, fun j h => by omega⟩ ?_ ?_
  · rintro i x e B hx ⟨⟨u, rfl⟩, st, rfl, hl, hst, hle⟩ N hN
    obtain ⟨hi, rfl⟩ := rng_get hx
    have lo := lnAt_ok ok hi
    obtain ⟨tb, htb, _⟩ := lo.tt
    have ht : (lnAt G i).t < G.tasks.length := (List.getElem?_eq_some_iff.mp htb).1
    walk_at "dx"
    rw [gl _ i hi]
    walk_at "dx"
    by_cases hc : (lnAt G i).t = k
    · refine dT (by simp only [decide_eq_true_eq]; exact (nm_eq ok ht hk).mpr hc) ?_
      obtain ⟨h1, h2, h3b, h4⟩ := take_len ok so ((lead_iff (f := Ln.t) hi).mpr hc)
      walk_at "dx"
      rw [gt_ls (v := .int (st.getD i 0)) (ls_ref updA_same) (by omega) (by rw [show (0 + (i : Int)).toNat = i by omega]; exact ints_get (by omega))]
      walk_at "dx"
      rw [gl _ i hi]
      walk_at "dx"
      rw [gt_tup (v := .int (takeAt G S k i)) h3b (ints_get (by omega))]
      walk_at "dx"
      refine setI_lst updA_same (by omega) (by rw [List.length_map]; omega) ?_
      rw [updA_upd, set_ints, show (0 + (i : Int)).toNat = i by omega]
      have hil : i < st.length := by omega
      walk_at "dx"
      rw [gt_ls (v := .int (st.getD i 0 - takeAt G S k i)) (ls_ref updA_same) (by omega) (by rw [show (0 + (i : Int)).toNat = i by omega, ints_get (by rw [List.length_set]; exact hil), getD_set hil, if_pos rfl])]
      have hsi := hst i hi
      rw [if_neg (by omega)] at hsi
      walk_at "dx"
      by_cases hneg : st.getD i 0 - takeAt G S k i < 0
      · refine dT (by simp only [decide_eq_true_eq]; exact hneg) ?_
        have hnr : ¬ readyK G S k = true := fun hr => by
          have := of_decide_eq_true (List.all_eq_true.mp hr i ((lead_iff (f := Ln.t) hi).mpr hc))
          omega
        rw [if_neg hnr] at q
        exact Cv.drop (drop _ _) q
      · refine dF (by simp only [decide_eq_true_eq]; exact hneg) ?_
        refine ⟨trivial, hN _ _ ⟨⟨_, rfl⟩, _, rfl, by rw [List.length_set]; exact hl, fun j hj => ?_, fun j h5 h6 h7 => ?_⟩⟩
        · rw [getD_set hil]
          by_cases e : j = i
          · subst e; rw [if_pos rfl, if_pos ⟨hc, by omega⟩]; omega
          · rw [if_neg e, hst j hj]
            by_cases e2 : (lnAt G j).t = k ∧ j < i
            · rw [if_pos e2, if_pos ⟨e2.1, by omega⟩]
            · rw [if_neg e2, if_neg (fun z => e2 ⟨z.1, by omega⟩)]
        · by_cases e : j = i
          · subst e; omega
          · exact hle j (by omega) h6 h7
    · refine dF (by simp only [decide_eq_true_eq]; exact fun z => hc ((nm_eq ok ht hk).mp z)) ?_
      refine ⟨trivial, hN _ _ ⟨⟨_, rfl⟩, st, rfl, hl, fun j hj => ?_, fun j h5 h6 h7 => ?_⟩⟩
      · rw [hst j hj]
        by_cases e2 : (lnAt G j).t = k ∧ j < i
        · rw [if_pos e2, if_pos ⟨e2.1, by omega⟩]
        · rw [if_neg e2, if_neg (fun z => by
            by_cases e : j = i
            · subst e; exact hc z.1
            · exact e2 ⟨z.1, by omega⟩)]
      · by_cases e : j = i
        · subst e; exact absurd h7 hc
        · exact hle j (by omega) h6 h7
  rintro e B ⟨⟨u, rfl⟩, st, rfl, hl, hst, hle⟩
  rw [rng_len] at hst hle
  have hrk : readyK G S k = true := by
    unfold readyK
    rw [List.all_eq_true]
    intro j m
    have hj := lead_lt m
    exact decide_eq_true (hle j hj hj ((lead_iff hj).mp m))
  rw [if_pos hrk] at q
  refine ⟨by rw [List.length_map]; omega, by rw [List.length_map]; omega, ?_⟩
  rw [List.length_map, Int.toNat_natCast]
  refine rFor_inv (fun i e B => (∃ x, e = [some (encG G), some (encS S), some (.int (k : Nat)), some (.ref p), some (.ref r), some (.str (nmAt G.tasks k)), some (.int (S.ph.getD k 0)), x]) ∧ ∃ st2 : List Int, B = updA (updA AH p (.lst (S.ph.map .int))) r (.lst (st2.map .int)) ∧ st2.length = G.lines.length ∧
      ∀ j, j < G.lines.length → st2.getD j 0 = st.getD j 0 + if (lnAt G j).o = k ∧ j < i then giveAt G S k j else 0)
    ⟨⟨_, rfl⟩, st, rfl, hl, fun j hj => by rw [if_neg (by omega)]; omega⟩ ?_ ?_
  · rintro i x e B hx ⟨⟨u, rfl⟩, st2, rfl, hl2, hst2⟩ N hN
    obtain ⟨hi, rfl⟩ := rng_get hx
    have lo := lnAt_ok ok hi
    obtain ⟨tb, htb, _⟩ := lo.ot
    have ht : (lnAt G i).o < G.tasks.length := (List.getElem?_eq_some_iff.mp htb).1
    walk_at "dx"
    rw [gl _ i hi]
    walk_at "dx"
    by_cases hc : (lnAt G i).o = k
    · refine dT (by simp only [decide_eq_true_eq]; exact (nm_eq ok ht hk).mpr hc) ?_
      obtain ⟨h1, h2, h3b, h4⟩ := give_len ok so ((lead_iff (f := Ln.o) hi).mpr hc)
      have hil : i < st2.length := by omega
      walk_at "dx"
      rw [gt_ls (v := .int (st2.getD i 0)) (ls_ref updA_same) (by omega) (by rw [show (0 + (i : Int)).toNat = i by omega]; exact ints_get (by omega))]
      walk_at "dx"
      rw [gl _ i hi]
      walk_at "dx"
      rw [gt_tup (v := .int (giveAt G S k i)) h3b (ints_get (by omega))]
      walk_at "dx"
      refine setI_lst updA_same (by omega) (by rw [List.length_map]; omega) ?_
      rw [updA_upd, set_ints, show (0 + (i : Int)).toNat = i by omega]
      refine ⟨trivial, hN _ _ ⟨⟨_, rfl⟩, _, rfl, by rw [List.length_set]; exact hl2, fun j hj => ?_⟩⟩
      rw [getD_set hil]
      have hsi := hst2 i hi
      rw [if_neg (by omega)] at hsi
      by_cases e : j = i
      · subst e; rw [if_pos rfl, if_pos ⟨hc, by omega⟩]; omega
      · rw [if_neg e, hst2 j hj]
        by_cases e2 : (lnAt G j).o = k ∧ j < i
        · rw [if_pos e2, if_pos ⟨e2.1, by omega⟩]
        · rw [if_neg e2, if_neg (fun z => e2 ⟨z.1, by omega⟩)]
    · refine dF (by simp only [decide_eq_true_eq]; exact fun z => hc ((nm_eq ok ht hk).mp z)) ?_
      refine ⟨trivial, hN _ _ ⟨⟨_, rfl⟩, st2, rfl, hl2, fun j hj => ?_⟩⟩
      rw [hst2 j hj]
      by_cases e2 : (lnAt G j).o = k ∧ j < i
      · rw [if_pos e2, if_pos ⟨e2.1, by omega⟩]
      · rw [if_neg e2, if_neg (fun z => by
          by_cases e : j = i
          · subst e; exact hc z.1
          · exact e2 ⟨z.1, by omega⟩)]
  rintro e B ⟨⟨u, rfl⟩, st2, rfl, hl2, hst2⟩
  rw [rng_len] at hst2
  walk_at "dx"
  rw [gt_tup (v := encT a) (by omega) (by rw [List.getElem?_map, Int.toNat_natCast, ha]; rfl)]
  have hlen := (ok.ts a (List.mem_of_getElem? ha)).len
  refine ⟨by rw [List.length_map]; omega, ?_⟩
  walk_at "dx"
  refine setI_lst (by rw [updA_ne ne, updA_same]) (by omega) (by rw [List.length_map]; omega) ?_
  rw [Int.toNat_natCast, set_ints, List.length_map, updA_comm ne.symm, updA_upd]
  have eph : (fireS G S k).ph = S.ph.set k ((S.ph.getD k 0 + 1) % ((a.ds.length : Nat) : Int)) := by
    unfold fireS
    rw [List.getD_eq_getElem?_getD (l := G.tasks), ha]; rfl
  have est : (fireS G S k).st = st2 := by
    apply ints_ext
    · show (subAll _ _ (subAll _ _ S.st)).length = _
      rw [subAll_len, subAll_len, so.sl, hl2]
    · intro j hj
      have hj2 : j < G.lines.length := by
        have : (fireS G S k).st.length = G.lines.length := by
          show (subAll _ _ (subAll _ _ S.st)).length = _
          rw [subAll_len, subAll_len, so.sl]
        omega
      rw [fire_st so hj2, hst2 j hj2, hst j hj2]
      simp only [hj2, and_true]
  rw [← eph, ← est]
  walk_at "dx"
  rw [sqOf_ref (xs := (fireS G S k).ph.map .int) (by rw [updA_ne ne, updA_same])]
  walk_at "dx"
  rw [sqOf_ref (xs := (fireS G S k).st.map .int) updA_same]
  refine ⟨by simp; decide, ?_⟩
  exact Cv.drop (drop _ _) q
end D

set_option Elab.async false
set_option linter.all false
set_option maxRecDepth 100000
set_option maxHeartbeats 4000000
namespace D
open PySem PySem.Spec L2
local macro_rules | `(tactic| walk_at "dx") => `(tactic| conv => whnf)
/-! ### the graph at a state -/
def rot (ns : List Int) (p : Int) : List Int := ns.drop p.toNat ++ ns.take p.toNat
theorem rot_len (ns : List Int) (p : Int) : (rot ns p).length = ns.length := by unfold rot; rw [List.length_append, List.length_drop, List.length_take]; omega
theorem rot_mem {ns : List Int} {p d : Int} (h : d ∈ rot ns p) : d ∈ ns := by
  unfold rot at h
  rcases List.mem_append.mp h with m | m
  · exact List.mem_of_mem_drop m
  · exact List.mem_of_mem_take m
theorem rot_sum (ns : List Int) (p : Int) : (rot ns p).sum = ns.sum := by
  unfold rot
  rw [List.sum_append, Int.add_comm, ← List.sum_append, List.take_append_drop]
def turnT (G : Gr) (S : Sta) : List Task := (G.tasks.zip S.ph).map fun p => ⟨p.1.nm, rot p.1.ds p.2⟩
def turnL (S : Sta) (p : Ln × Int) : Ln := ⟨p.1.o, p.1.t, rot p.1.gs (S.ph.getD p.1.o 0), rot p.1.ts (S.ph.getD p.1.t 0), p.2⟩
def turnG (G : Gr) (S : Sta) : Gr := ⟨turnT G S, (G.lines.zip S.st).map (turnL S)⟩
def sp_need_state : Spa := fun as A Q => ∃ G S, as = [encG G, encS S] ∧ GoodG G ∧ GoodS G S ∧ Q .non A
def t_need_state : TSa :=
  (sSeq (sDrop (aCall sp_look_at_graph (aCons (vVar 0) aNil)))
    (sDrop (aCall sp_look_at_state (aCons (vVar 0) (aCons (vVar 1) aNil)))))
theorem rd_need_state (as : List AV) (AH : AHp) (Q : AV → AHp → Prop) (h : sp_need_state as AH Q) : t_need_state { nx := fun _ A2 => Cv Q .non A2, rt := Cv Q } (startA ["graph", "state"] as) AH := by
  obtain ⟨G, S, rfl, ok, so, q⟩ := h
  exact ⟨G, rfl, ok, ⟨G, S, rfl, ok, so, Cv.of q⟩⟩
def sp_turned : Spa := fun as A Q => ∃ (ns : List Int) (p : Int), as = [.tup (ns.map .int), .int p] ∧ ns.length ≤ 24 ∧ 0 ≤ p ∧ Q (.tup ((rot ns p).map .int)) A
def t_turned : TSa :=
  (sRet (aOp addR (aSl slV (vVar 0) (vPart (vVar 1)) aNoPart) (aSl slV (vVar 0) aNoPart (vPart (vVar 1)))))
theorem rd_turned (as : List AV) (AH : AHp) (Q : AV → AHp → Prop) (h : sp_turned as AH Q) : t_turned { nx := fun _ A2 => Cv Q .non A2, rt := Cv Q } (startA ["numbers", "phase"] as) AH := by
  obtain ⟨ns, p, rfl, hl, h0, q⟩ := h
  have e1 : cutA (ns.map AV.int) (some p) none ++ cutA (ns.map AV.int) none (some p) = (rot ns p).map .int := by
    rw [cut_from h0, cut_to h0]
    unfold rot
    rw [List.map_append, List.map_drop, List.map_take]
  have l1 : (cutA (ns.map AV.int) (some p) none).length ≤ 24 := by rw [cut_from h0, List.length_drop, List.length_map]; omega
  have l2 : (cutA (ns.map AV.int) none (some p)).length ≤ 24 := by rw [cut_to h0, List.length_take, List.length_map]; omega
  refine ⟨sz8 (by omega), ?_⟩
  rw [e1]
  exact Cv.of q
theorem turnT_nms {G : Gr} {S : Sta} (h : S.ph.length = G.tasks.length) : nms (turnT G S) = nms G.tasks := by
  unfold nms turnT
  rw [List.map_map]
  apply List.ext_getElem?
  intro i
  rw [List.getElem?_map, List.getElem?_map]
  by_cases hi : i < G.tasks.length
  · rw [List.getElem?_eq_getElem (by rw [List.length_zip]; omega), List.getElem?_eq_getElem hi]
    simp
  · rw [List.getElem?_eq_none (by rw [List.length_zip]; omega), List.getElem?_eq_none (by omega)]
    rfl
theorem nmAt_nms (T : List Task) (i : Nat) : nmAt T i = ((nms T)[i]?).getD ⟨#[]⟩ := by unfold nmAt nms; rw [List.getElem?_map]
theorem turnT_nm {G : Gr} {S : Sta} (h : S.ph.length = G.tasks.length) (i : Nat) : nmAt (turnT G S) i = nmAt G.tasks i := by rw [nmAt_nms, turnT_nms h, ← nmAt_nms]
theorem zip_snd_map {α β : Type} {f : α → AV} {g : β → AV} (xs : List α) (ys : List β) : zipA (xs.map f) (ys.map g) = (xs.zip ys).map fun p => .tup [f p.1, g p.2] := zip_map f g xs ys
def sp_at_state : Spa := fun as A Q => ∃ G S, as = [encG G, encS S] ∧ GoodG G ∧ GoodS G S ∧ Q (encG (turnG G S)) A
def t_at_state : TSa :=
  (sSeq (sAsg (aCall sp_task_names (aCons (vVar 0) aNil)) (hName 2))
    (sSeq (sAsg (vLc (iZp (aCons (aOp ixV (vVar 0) (aC (.int 0))) (aCons (aOp ixV (vVar 1) (aC (.int 0))) aNil))) (kTup 2 (kCons (hName 9) (kCons (hName 10) kNil))) aYes (aTup (aCons (aOp ixV (vVar 9) (aC (.int 0))) (aCons (aCall sp_turned (aCons (aOp ixV (vVar 9) (aC (.int 1))) (aCons (vVar 10) aNil))) aNil))) [9, 10]) (hName 3))
    (sSeq (sAsg (aLst aNil) (hName 4))
    (sSeq (sForV (iZp (aCons (aOp ixV (vVar 0) (aC (.int 1))) (aCons (aOp ixV (vVar 1) (aC (.int 1))) aNil))) (kTup 2 (kCons (hName 5) (kCons (hName 6) kNil)))
      (sSeq (sAsg (aCall sp_turned (aCons (aOp ixV (vVar 5) (aC (.int 2))) (aCons (aOp ixV (aOp ixV (vVar 1) (aC (.int 0))) (vML nIdx (vVar 2) (aCons (aOp ixV (vVar 5) (aC (.int 0))) aNil))) aNil))) (hName 7))
      (sSeq (sAsg (aCall sp_turned (aCons (aOp ixV (vVar 5) (aC (.int 3))) (aCons (aOp ixV (aOp ixV (vVar 1) (aC (.int 0))) (vML nIdx (vVar 2) (aCons (aOp ixV (vVar 5) (aC (.int 1))) aNil))) aNil))) (hName 8))
      (sDrop (vML nApp (vVar 4) (aCons (aTup (aCons (aOp ixV (vVar 5) (aC (.int 0))) (aCons (aOp ixV (vVar 5) (aC (.int 1))) (aCons (vVar 7) (aCons (vVar 8) (aCons (vVar 6) aNil)))))) aNil))))))
    (sRet (aTup (aCons (aCB vTuple (aCons (vVar 3) aNil)) (aCons (aCB vTuple (aCons (vVar 4) aNil)) aNil))))))))
theorem rd_at_state (as : List AV) (AH : AHp) (Q : AV → AHp → Prop) (h : sp_at_state as AH Q) : t_at_state { nx := fun _ A2 => Cv Q .non A2, rt := Cv Q } (startA ["graph", "state", "names", "tasks", "lines", "line", "stock", "gives", "takes", "task", "phase"] as) AH := by
  obtain ⟨G, S, rfl, ok, so, q⟩ := h
  have h2 := ok.len.2
  have h3 := ok.lin
  refine ⟨G.tasks, _, rfl, h2, ?_⟩
  rw [nms_eq]
  walk_at "dx"
  rw [zip_map]
  refine lc_map (keep := free) (fun p : Task × Int => .tup [encT p.1, .int p.2]) (fun p => encT ⟨p.1.nm, rot p.1.ds p.2⟩) (sz8 (by rw [List.length_zip]; omega)) keep_free (fun p hp B _ T F hT => ?_) ?_
  · have h4 := (ok.ts p.1 (List.of_mem_zip hp).1).len
    have h5 := so.pb p.2 (List.of_mem_zip hp).2
    refine ⟨p.1.ds, p.2, rfl, by omega, h5.1, ?_⟩
    refine ⟨by simp; decide, ?_⟩
    exact hT
  walk_at "dx"
  refine ⟨by simp, fun r hr => ?_⟩
  walk_at "dx"
  rw [zip_map]
  refine rFor_inv (fun i e A => (∃ x5 x6 x7 x8, e = [some (encG G), some (encS S), some (.fl ((nms G.tasks).map .str)), some (.fl ((G.tasks.zip S.ph).map fun p => encT ⟨p.1.nm, rot p.1.ds p.2⟩)), some (.ref r), x5, x6, x7, x8, none, none]) ∧
      A = updA AH r (.lst ((((G.lines.zip S.st).take i).map (turnL S)).map (encL (turnT G S))))) ⟨⟨_, _, _, _, rfl⟩, rfl⟩ ?_ ?_
  · rintro i x e A hx ⟨⟨x5, x6, x7, x8, rfl⟩, rfl⟩ N hN
    rw [List.getElem?_map] at hx
    obtain ⟨⟨l, st⟩, hz, rfl⟩ := Option.map_eq_some_iff.mp hx
    have hi := (List.getElem?_eq_some_iff.mp hz).1
    rw [List.length_zip] at hi
    have hm := List.of_mem_zip (List.mem_of_getElem? hz)
    have lo := ok.ls l hm.1
    obtain ⟨ta, hta, hga⟩ := lo.ot
    obtain ⟨tb, htb, hgb⟩ := lo.tt
    have ho : l.o < G.tasks.length := (List.getElem?_eq_some_iff.mp hta).1
    have ht : l.t < G.tasks.length := (List.getElem?_eq_some_iff.mp htb).1
    have hpo := so.phk hta
    have hpt := so.phk htb
    have gl := lo.glen ok.ts
    have tl := lo.tlen ok.ts
    have gp : ∀ (B : AHp) (k : Nat), k < S.ph.length → gtR0 B (.tup (S.ph.map .int)) (.int (k : Nat)) = some (.int (S.ph.getD k 0)) := fun B k hk => gt_tup (by omega) (by rw [Int.toNat_natCast]; exact ints_get hk)
    walk_at "dx"
    refine nIdx_at (x := .fl ((nms G.tasks).map .str)) (j := l.o) rfl (at_strs ok.nd (nms_get ho)) ?_
    walk_at "dx"
    rw [gp _ _ hpo.1]
    refine ⟨l.gs, _, rfl, by omega, hpo.2.1, ?_⟩
    walk_at "dx"
    refine nIdx_at (x := .fl ((nms G.tasks).map .str)) (j := l.t) rfl (at_strs ok.nd (nms_get ht)) ?_
    walk_at "dx"
    rw [gp _ _ hpt.1]
    refine ⟨l.ts, _, rfl, by omega, hpt.2.1, ?_⟩
    walk_at "dx"
    rw [ls_ref updA_same]
    refine ⟨by simp; decide, ?_⟩
    walk_at "dx"
    refine nApp_lst updA_same ?_ ⟨trivial, hN _ _ ⟨⟨_, _, _, _, rfl⟩, ?_⟩⟩
    · rw [List.length_map, List.length_map, List.length_take]
      exact Nat.lt_of_lt_of_le (by omega : _ < 1000) (by decide)
    · rw [updA_upd, take_succ_of hz, List.map_append, List.map_append]
      have e : encL (turnT G S) (turnL S (l, st)) = .tup [.str (nmAt G.tasks l.o), .str (nmAt G.tasks l.t), .tup ((rot l.gs (S.ph.getD l.o 0)).map .int), .tup ((rot l.ts (S.ph.getD l.t 0)).map .int), .int st] := by
        unfold encL turnL
        rw [turnT_nm so.pl, turnT_nm so.pl]
      simp only [List.map_cons, List.map_nil]
      rw [e]
  · rintro e A ⟨⟨x5, x6, x7, x8, rfl⟩, rfl⟩
    rw [List.length_map, List.take_length]
    walk_at "dx"
    rw [sqOf_ref (xs := (((G.lines.zip S.st).map (turnL S)).map (encL (turnT G S)))) updA_same]
    refine ⟨by simp; decide, ?_⟩
    refine Cv.drop (SubA.new hr) ?_
    have e : encG (turnG G S) = .tup [.tup ((G.tasks.zip S.ph).map fun p => encT ⟨p.1.nm, rot p.1.ds p.2⟩), .tup (((G.lines.zip S.st).map (turnL S)).map (encL (turnT G S)))] := by
      unfold encG turnG turnT
      simp only [List.map_map]
      rfl
    rw [e] at q
    exact q
def sp_graph_at : Spa := fun as A Q => ∃ G S, as = [encG G, encS S] ∧ GoodG G ∧ GoodS G S ∧ Q (encG (turnG G S)) A
def t_graph_at : TSa :=
  (sSeq (sDrop (aCall sp_need_state (aCons (vVar 0) (aCons (vVar 1) aNil))))
    (sRet (aCall sp_at_state (aCons (vVar 0) (aCons (vVar 1) aNil)))))
theorem rd_graph_at (as : List AV) (AH : AHp) (Q : AV → AHp → Prop) (h : sp_graph_at as AH Q) : t_graph_at { nx := fun _ A2 => Cv Q .non A2, rt := Cv Q } (startA ["graph", "state"] as) AH := by
  obtain ⟨G, S, rfl, ok, so, q⟩ := h
  exact ⟨G, S, rfl, ok, so, ⟨G, S, rfl, ok, so, Cv.of q⟩⟩
theorem turn_good {G : Gr} {S : Sta} (ok : GoodG G) (so : GoodS G S) (hs : ∀ s ∈ S.st, s ≤ 99999) : GoodG (turnG G S) where
  len := by
    have := ok.len
    have h := so.pl
    show 1 ≤ (turnT G S).length ∧ (turnT G S).length ≤ 24
    unfold turnT
    rw [List.length_map, List.length_zip]; omega
  lin := by
    have := ok.lin
    show ((G.lines.zip S.st).map (turnL S)).length ≤ 60
    rw [List.length_map, List.length_zip]; omega
  ts := fun t m => by
    obtain ⟨p, hp, rfl⟩ := List.mem_map.mp m
    have h := ok.ts p.1 (List.of_mem_zip hp).1
    exact ⟨h.nm, by show 1 ≤ (rot p.1.ds p.2).length ∧ (rot p.1.ds p.2).length ≤ 24; rw [rot_len]; exact h.len, fun d md => h.all d (rot_mem md)⟩
  nod := by
    have := turnT_nms so.pl
    show (nms (turnT G S)).Nodup
    rw [this]; exact ok.nod
  ls := fun l m => by
    obtain ⟨⟨l, st⟩, hp, rfl⟩ := List.mem_map.mp m
    have hm := List.of_mem_zip hp
    have lo := ok.ls l hm.1
    have tg : ∀ (k : Nat) (a : Task), G.tasks[k]? = some a → ∃ b, (turnT G S)[k]? = some b ∧ b.ds.length = a.ds.length := fun k a h => by
      have hk := (List.getElem?_eq_some_iff.mp h).1
      have hk2 : k < S.ph.length := by rw [so.pl]; exact hk
      refine ⟨⟨a.nm, rot a.ds S.ph[k]⟩, ?_, rot_len _ _⟩
      unfold turnT
      rw [List.getElem?_map, (List.getElem?_zip_eq_some (z := (a, S.ph[k]))).mpr ⟨h, List.getElem?_eq_getElem hk2⟩]; rfl
    obtain ⟨ta, hta, hga⟩ := lo.ot
    obtain ⟨tb, htb, hgb⟩ := lo.tt
    obtain ⟨ta', h1, h2⟩ := tg _ _ hta
    obtain ⟨tb', h3, h4⟩ := tg _ _ htb
    exact ⟨⟨ta', h1, by show (rot l.gs _).length = _; rw [rot_len, hga, h2]⟩, ⟨tb', h3, by show (rot l.ts _).length = _; rw [rot_len, hgb, h4]⟩, fun d md => lo.gs d (rot_mem md), fun d md => lo.ts d (rot_mem md),
      by show 0 < (rot l.gs _).sum; rw [rot_sum]; exact lo.gp, by show 0 < (rot l.ts _).sum; rw [rot_sum]; exact lo.tp, ⟨(so.sb st hm.2).1, hs st hm.2⟩⟩
end D

set_option Elab.async false
set_option linter.all false
set_option maxRecDepth 100000
set_option maxHeartbeats 4000000
namespace D
open PySem PySem.Spec L2
local macro_rules | `(tactic| walk_at "dx") => `(tactic| conv => whnf)
/-! ### things of any kind, and the looks at them -/
mutual
def smA : AV → Bool
  | .non => true
  | .bl _ => true
  | .int _ => true
  | .str s => decide (s.length ≤ 1000)
  | .tup xs => decide (xs.length ≤ 1000) && smAs xs
  | .fl xs => decide (xs.length ≤ 1000) && smAs xs
  | _ => false
def smAs : List AV → Bool
  | [] => true
  | x :: r => smA x && smAs r
end
theorem smAs_mem : ∀ {xs : List AV}, smAs xs = true → ∀ x ∈ xs, smA x = true
  | x :: r, h, y, m => by
    simp only [smAs, Bool.and_eq_true] at h
    rcases List.mem_cons.mp m with rfl | m
    · exact h.1
    · exact smAs_mem h.2 y m
theorem smAs_of : ∀ {xs : List AV}, (∀ x ∈ xs, smA x = true) → smAs xs = true
  | [], _ => by simp only [smAs]
  | x :: r, h => by simp only [smAs, h x (List.mem_cons_self ..), smAs_of fun y m => h y (List.mem_cons_of_mem _ m)]; rfl
theorem smA_tup {xs : List AV} (h : smA (.tup xs) = true) : xs.length ≤ 1000 ∧ ∀ x ∈ xs, smA x = true := by
  simp only [smA, Bool.and_eq_true, decide_eq_true_eq] at h
  exact ⟨h.1, smAs_mem h.2⟩
theorem smA_mk {xs : List AV} (h : xs.length ≤ 1000) (m : ∀ x ∈ xs, smA x = true) : smA (.tup xs) = true := by
  simp only [smA, Bool.and_eq_true, decide_eq_true_eq]
  exact ⟨h, smAs_of m⟩
def wholeA : AV → Bool
  | .int _ => true
  | _ => false
def betwA (a b : Int) : AV → Bool
  | .int i => decide (a ≤ i) && decide (i ≤ b)
  | _ => false
def tupA (a b : Int) : AV → Bool
  | .tup xs => decide (a ≤ (xs.length : Nat)) && decide (((xs.length : Nat) : Int) ≤ b)
  | _ => false
def aresA (a b : Int) : AV → Bool
  | .tup xs => xs.all (betwA a b)
  | _ => false
def nameB (s : Str) : Bool := decide (1 ≤ s.length) && (decide (s.length ≤ 8) && ((match s.cps.toList[0]? with | some c => decide (c ∈ lettersS.cps.toList) | none => false) && s.cps.toList.all fun c => decide (c ∈ (lettersS ++ figuresS).cps.toList)))
def nameA : AV → Bool
  | .str s => nameB s
  | _ => false
def elts : AV → List AV
  | .tup xs => xs
  | _ => []
def el (x : AV) (i : Nat) : AV := (elts x).getD i .non
def taskA (x : AV) : Bool := tupA 2 2 x && (nameA (el x 0) && (tupA 1 24 (el x 1) && aresA 1 99 (el x 1)))
def lineA (x : AV) : Bool := tupA 5 5 x && (nameA (el x 0) && (nameA (el x 1) && (aresA 0 9 (el x 2) && (aresA 0 9 (el x 3) && betwA 0 99999 (el x 4)))))
def formA (x : AV) : Bool := tupA 2 2 x && (tupA 1 24 (el x 0) && (tupA 0 60 (el x 1) && ((elts (el x 0)).all taskA && (elts (el x 1)).all lineA)))
theorem tupA_iff {a b : Int} {x : AV} : tupA a b x = true ↔ ∃ xs, x = .tup xs ∧ a ≤ (xs.length : Nat) ∧ ((xs.length : Nat) : Int) ≤ b := by
  cases x with
  | tup xs =>
    simp only [tupA, Bool.and_eq_true, decide_eq_true_eq]
    exact ⟨fun h => ⟨xs, rfl, h⟩, fun ⟨ys, e, h⟩ => by cases e; exact h⟩
  | _ =>
    constructor
    · intro h; cases h
    · rintro ⟨ys, e, _⟩; cases e
theorem smA_el {x : AV} {i : Nat} (h : smA x = true) : smA (el x i) = true := by
  unfold el
  rw [List.getD_eq_getElem?_getD]
  cases e : (elts x)[i]? with
  | none => rfl
  | some y =>
    cases x with
    | tup xs => exact (smA_tup h).2 y (List.mem_of_getElem? e)
    | _ => cases e
theorem gt_el {A : AHp} {xs : List AV} {i : Nat} (h : i < xs.length) : gtR0 A (.tup xs) (.int (i : Nat)) = some (el (.tup xs) i) := gt_tup (by omega) (by
  rw [Int.toNat_natCast]
  unfold el elts
  rw [List.getD_eq_getElem?_getD, List.getElem?_eq_getElem h]; rfl)
def sg_is_whole : Spa := fun as A Q => ∃ x, as = [x] ∧ smA x = true ∧ Q (.bl (wholeA x)) A
def tg_is_whole : TSa :=
  (sRet (vAnd (aCB vIsi (aCons (vVar 0) (aCons (aC (.ty "int")) aNil))) (vNot (aCB vIsi (aCons (vVar 0) (aCons (aC (.ty "bool")) aNil))))))
theorem rg_is_whole (as : List AV) (AH : AHp) (Q : AV → AHp → Prop) (h : sg_is_whole as AH Q) : tg_is_whole { nx := fun _ A2 => Cv Q .non A2, rt := Cv Q } (startA ["thing"] as) AH := by
  obtain ⟨x, rfl, hx, q⟩ := h
  cases x with
  | ref _ => cases hx
  | ty _ => cases hx
  | kl _ => cases hx
  | exc _ _ _ => cases hx
  | cgt _ _ _ _ => cases hx
  | bl b => exact Cv.of q
  | _ => exact Cv.of q
def sg_is_between : Spa := fun as A Q => ∃ (x : AV) (a b : Int), as = [x, .int a, .int b] ∧ smA x = true ∧ Q (.bl (betwA a b x)) A
def tg_is_between : TSa :=
  (sRet (vAnd (aCall sg_is_whole (aCons (vVar 0) aNil)) (aChain leR leR (vVar 1) (vVar 0) (vVar 2))))
theorem rg_is_between (as : List AV) (AH : AHp) (Q : AV → AHp → Prop) (h : sg_is_between as AH Q) : tg_is_between { nx := fun _ A2 => Cv Q .non A2, rt := Cv Q } (startA ["thing", "least", "most"] as) AH := by
  obtain ⟨x, a, b, rfl, hx, q⟩ := h
  refine ⟨x, rfl, hx, ?_⟩
  cases x with
  | int i =>
    show if true = true then _ else _
    rw [if_pos rfl]
    refine ⟨_, rfl, ?_⟩
    have q2 : Q (.bl (decide (a ≤ i) && decide (i ≤ b))) AH := q
    by_cases h1 : a ≤ i
    · rw [if_pos (decide_eq_true h1)]
      rw [decide_eq_true h1, Bool.true_and] at q2
      exact Cv.of q2
    · rw [if_neg (by simp [h1])]
      rw [decide_eq_false h1, Bool.false_and] at q2
      exact Cv.of q2
  | _ => exact Cv.of q
def sg_is_tuple_of : Spa := fun as A Q => ∃ (x : AV) (a b : Int), as = [x, .int a, .int b] ∧ smA x = true ∧ Q (.bl (tupA a b x)) A
def tg_is_tuple_of : TSa :=
  (sRet (vAnd (aCB vIsi (aCons (vVar 0) (aCons (aC (.ty "tuple")) aNil))) (aChain leR leR (vVar 1) (aCB vLen (aCons (vVar 0) aNil)) (vVar 2))))
theorem rg_is_tuple_of (as : List AV) (AH : AHp) (Q : AV → AHp → Prop) (h : sg_is_tuple_of as AH Q) : tg_is_tuple_of { nx := fun _ A2 => Cv Q .non A2, rt := Cv Q } (startA ["thing", "least", "most"] as) AH := by
  obtain ⟨x, a, b, rfl, hx, q⟩ := h
  cases x with
  | ref _ => cases hx
  | ty _ => cases hx
  | kl _ => cases hx
  | exc _ _ _ => cases hx
  | cgt _ _ _ _ => cases hx
  | tup xs =>
    have q2 : Q (.bl (decide (a ≤ (xs.length : Nat)) && decide (((xs.length : Nat) : Int) ≤ b))) AH := q
    refine ⟨_, rfl, ?_⟩
    by_cases h1 : a ≤ (xs.length : Nat)
    · rw [if_pos (decide_eq_true h1)]
      rw [decide_eq_true h1, Bool.true_and] at q2
      exact Cv.of q2
    · rw [if_neg (by simp [h1])]
      rw [decide_eq_false h1, Bool.false_and] at q2
      exact Cv.of q2
  | _ => exact Cv.of q
def sg_are_between : Spa := fun as A Q => ∃ (x : AV) (a b : Int), as = [x, .int a, .int b] ∧ smA x = true ∧ Q (.bl (aresA a b x)) A
theorem map_same (xs : List AV) : xs.map (fun x => x) = xs := by simp
def tg_are_between : TSa :=
  (sRet (vAnd (aCB vIsi (aCons (vVar 0) (aCons (aC (.ty "tuple")) aNil))) (aCB vAll (aCons (vLc (jSq (vVar 0)) (hName 3) aYes (aCall sg_is_between (aCons (vVar 3) (aCons (vVar 1) (aCons (vVar 2) aNil)))) [3]) aNil))))
theorem rg_are_between (as : List AV) (AH : AHp) (Q : AV → AHp → Prop) (h : sg_are_between as AH Q) : tg_are_between { nx := fun _ A2 => Cv Q .non A2, rt := Cv Q } (startA ["thing", "least", "most", "number"] as) AH := by
  obtain ⟨x, a, b, rfl, hx, q⟩ := h
  cases x with
  | ref _ => cases hx
  | ty _ => cases hx
  | kl _ => cases hx
  | exc _ _ _ => cases hx
  | cgt _ _ _ _ => cases hx
  | tup xs =>
    obtain ⟨hl, hm⟩ := smA_tup hx
    have q2 : Q (.bl (xs.all (betwA a b))) AH := q
    walk_at "dx"
    have go : ∀ {keep g tt te env} {R : AV → AHp → Prop}, lcT keep g tt te env (xs.map fun x => x) AH R → lcT keep g tt te env xs AH R := fun {keep g tt te env R} h => by rw [map_same] at h; exact h
    refine go (lc_map (keep := free) (fun x : AV => x) (fun x => .bl (betwA a b x)) (sz8 hl) keep_free (fun n hn B _ T F hT => ?_) ?_)
    · exact ⟨n, a, b, rfl, hm n hn, hT⟩
    · exact all_bl (Cv.of q2)
  | _ => exact Cv.of q
def sg_is_name : Spa := fun as A Q => ∃ x, as = [x] ∧ smA x = true ∧ Q (.bl (nameA x)) A
def tg_is_name : TSa :=
  (sSeq (sIf (aOrT (aNotT (vTru (aCB vIsi (aCons (vVar 0) (aCons (aC (.ty "str")) aNil))))) (aOrT (aNotT (vTest (aChain leR leR (aC (.int 1)) (aCB vLen (aCons (vVar 0) aNil)) (aC (.int 8))))) (vTest (aOp (inI true) (aOp ixV (vVar 0) (aC (.int 0))) (aC (.str "abcdefghijklmnopqrstuvwxyz"))))))
      (sRet (aC (.bl false)))
      sNext)
    (sRet (aCB vAll (aCons (vLc (jSq (vVar 0)) (hName 1) aYes (aOp (inI false) (vVar 1) (aOp addR (aC (.str "abcdefghijklmnopqrstuvwxyz")) (aC (.str "0123456789")))) [1]) aNil))))
theorem rg_is_name (as : List AV) (AH : AHp) (Q : AV → AHp → Prop) (h : sg_is_name as AH Q) : tg_is_name { nx := fun _ A2 => Cv Q .non A2, rt := Cv Q } (startA ["thing", "sign"] as) AH := by
  obtain ⟨x, rfl, hx, q⟩ := h
  cases x with
  | ref _ => cases hx
  | ty _ => cases hx
  | kl _ => cases hx
  | exc _ _ _ => cases hx
  | cgt _ _ _ _ => cases hx
  | str s =>
    have hl : s.length ≤ sizeLine := sz8 (of_decide_eq_true (by simpa only [smA] using hx))
    have q2 : Q (.bl (nameB s)) AH := q
    have go : tg_is_name { nx := fun _ A2 => Cv Q .non A2, rt := Cv Q } [some (.str s), none] AH := by
      walk_at "dx"
      rw [show lenA AH (.str s) = some s.length by unfold lenA; simp only [if_pos hl]]
      refine ⟨_, rfl, ?_⟩
      by_cases h1 : 1 ≤ s.length
      · rw [if_pos (decide_eq_true (by omega))]
        walk_at "dx"
        by_cases h8 : s.length ≤ 8
        · refine dF (by simp; omega) ?_
          walk_at "dx"
          obtain ⟨c, hc⟩ : ∃ c, s.cps.toList[0]? = some c := ⟨_, List.getElem?_eq_getElem (by rw [Array.length_toList]; exact h1)⟩
          rw [show gtR0 AH (.str s) (.int 0) = some (.str ⟨#[c]⟩) by
            unfold gtR0
            simp only [if_pos hl]
            rw [atI_of (Int.le_refl 0) hc]; rfl]
          refine in_sign ?_
          unfold nameB at q2
          rw [hc, decide_eq_true h1, decide_eq_true h8, Bool.true_and, Bool.true_and] at q2
          by_cases hcl : c ∈ lettersS.cps.toList
          · rw [decide_eq_true hcl]
            have q3 : Q (.bl (s.cps.toList.all fun c => decide (c ∈ (lettersS ++ figuresS).cps.toList))) AH := by
              have e : (match some c with | some c => decide (c ∈ lettersS.cps.toList) | none => false) = true := decide_eq_true hcl
              rw [e, Bool.true_and] at q2
              exact q2
            walk_at "dx"
            refine lc_map (keep := free) (fun c => .str ⟨#[c]⟩) (fun c => .bl (decide (c ∈ (lettersS ++ figuresS).cps.toList))) (by rw [Array.length_toList]; exact hl) keep_free (fun n hn B _ T F hT => ?_) ?_
            · refine ⟨by decide, in_sign ?_⟩
              rw [if_neg (by decide)]
              exact hT
            · exact all_bl (Cv.of q3)
          · rw [decide_eq_false hcl]
            have q3 : Q (.bl false) AH := by
              have e : (match some c with | some c => decide (c ∈ lettersS.cps.toList) | none => false) = false := decide_eq_false hcl
              rw [e, Bool.false_and] at q2
              exact q2
            exact Cv.of q3
        · refine dT (by simp; omega) ?_
          have q3 : Q (.bl false) AH := by
            unfold nameB at q2
            rw [decide_eq_false h8, Bool.false_and, Bool.and_false] at q2
            exact q2
          exact Cv.of q3
      · rw [if_neg (by simp; omega)]
        have q3 : Q (.bl false) AH := by
          unfold nameB at q2
          rw [decide_eq_false h1, Bool.false_and] at q2
          exact q2
        exact Cv.of q3
    exact go
  | _ => exact Cv.of q
end D

set_option Elab.async false
set_option linter.all false
set_option maxRecDepth 100000
set_option maxHeartbeats 4000000
namespace D
open PySem PySem.Spec L2
local macro_rules | `(tactic| walk_at "dx") => `(tactic| conv => whnf)
theorem gt_elk {A : AHp} {xs : List AV} {k : Int} {i : Nat} (h : i < xs.length) (hk : k = (i : Nat)) : gtR0 A (.tup xs) (.int k) = some (el (.tup xs) i) := by rw [hk]; exact gt_el h
def sg_is_task : Spa := fun as A Q => ∃ x, as = [x] ∧ smA x = true ∧ Q (.bl (taskA x)) A
def tg_is_task : TSa :=
  (sSeq (sIf (aOrT (aNotT (vTru (aCall sg_is_tuple_of (aCons (vVar 0) (aCons (aC (.int 2)) (aCons (aC (.int 2)) aNil)))))) (aNotT (vTru (aCall sg_is_name (aCons (aOp ixV (vVar 0) (aC (.int 0))) aNil)))))
      (sRet (aC (.bl false)))
      sNext)
    (sRet (vAnd (aCall sg_is_tuple_of (aCons (aOp ixV (vVar 0) (aC (.int 1))) (aCons (aC (.int 1)) (aCons (aC (.int 24)) aNil)))) (aCall sg_are_between (aCons (aOp ixV (vVar 0) (aC (.int 1))) (aCons (aC (.int 1)) (aCons (aC (.int 99)) aNil)))))))
theorem rg_is_task (as : List AV) (AH : AHp) (Q : AV → AHp → Prop) (h : sg_is_task as AH Q) : tg_is_task { nx := fun _ A2 => Cv Q .non A2, rt := Cv Q } (startA ["thing"] as) AH := by
  obtain ⟨x, rfl, hx, q⟩ := h
  refine ⟨x, 2, 2, rfl, hx, ?_⟩
  unfold taskA at q
  cases hk : tupA 2 2 x with
  | false => rw [hk] at q; exact Cv.of q
  | true =>
    rw [hk, Bool.true_and] at q
    obtain ⟨xs, rfl, h1, h2⟩ := tupA_iff.mp hk
    walk_at "dx"
    rw [gt_elk (k := 0) (i := 0) (by omega) rfl]
    refine ⟨_, rfl, smA_el hx, ?_⟩
    cases hn : nameA (el (.tup xs) 0) with
    | false => rw [hn] at q; exact Cv.of q
    | true =>
      rw [hn, Bool.true_and] at q
      walk_at "dx"
      rw [gt_elk (k := 1) (i := 1) (by omega) rfl]
      refine ⟨_, _, _, rfl, smA_el hx, ?_⟩
      cases ht : tupA 1 24 (el (.tup xs) 1) with
      | false => rw [ht] at q; exact Cv.of q
      | true =>
        rw [ht, Bool.true_and] at q
        walk_at "dx"
        rw [gt_elk (k := 1) (i := 1) (by omega) rfl]
        exact ⟨_, _, _, rfl, smA_el hx, Cv.of q⟩
def sg_is_line : Spa := fun as A Q => ∃ x, as = [x] ∧ smA x = true ∧ Q (.bl (lineA x)) A
def tg_is_line : TSa :=
  (sSeq (sIf (aOrT (aNotT (vTru (aCall sg_is_tuple_of (aCons (vVar 0) (aCons (aC (.int 5)) (aCons (aC (.int 5)) aNil)))))) (aOrT (aNotT (vTru (aCall sg_is_name (aCons (aOp ixV (vVar 0) (aC (.int 0))) aNil)))) (aNotT (vTru (aCall sg_is_name (aCons (aOp ixV (vVar 0) (aC (.int 1))) aNil))))))
      (sRet (aC (.bl false)))
      sNext)
    (sSeq (sIf (aOrT (aNotT (vTru (aCall sg_are_between (aCons (aOp ixV (vVar 0) (aC (.int 2))) (aCons (aC (.int 0)) (aCons (aC (.int 9)) aNil)))))) (aNotT (vTru (aCall sg_are_between (aCons (aOp ixV (vVar 0) (aC (.int 3))) (aCons (aC (.int 0)) (aCons (aC (.int 9)) aNil)))))))
      (sRet (aC (.bl false)))
      sNext)
    (sRet (aCall sg_is_between (aCons (aOp ixV (vVar 0) (aC (.int 4))) (aCons (aC (.int 0)) (aCons (aC (.int 99999)) aNil)))))))
theorem rg_is_line (as : List AV) (AH : AHp) (Q : AV → AHp → Prop) (h : sg_is_line as AH Q) : tg_is_line { nx := fun _ A2 => Cv Q .non A2, rt := Cv Q } (startA ["thing"] as) AH := by
  obtain ⟨x, rfl, hx, q⟩ := h
  refine ⟨x, 5, 5, rfl, hx, ?_⟩
  unfold lineA at q
  cases hk : tupA 5 5 x with
  | false => rw [hk] at q; exact Cv.of q
  | true =>
    rw [hk, Bool.true_and] at q
    obtain ⟨xs, rfl, h1, h2⟩ := tupA_iff.mp hk
    walk_at "dx"
    rw [gt_elk (k := 0) (i := 0) (by omega) rfl]
    refine ⟨_, rfl, smA_el hx, ?_⟩
    cases hn : nameA (el (.tup xs) 0) with
    | false => rw [hn] at q; exact Cv.of q
    | true =>
      rw [hn, Bool.true_and] at q
      walk_at "dx"
      rw [gt_elk (k := 1) (i := 1) (by omega) rfl]
      refine ⟨_, rfl, smA_el hx, ?_⟩
      cases hn2 : nameA (el (.tup xs) 1) with
      | false => rw [hn2] at q; exact Cv.of q
      | true =>
        rw [hn2, Bool.true_and] at q
        walk_at "dx"
        rw [gt_elk (k := 2) (i := 2) (by omega) rfl]
        refine ⟨_, _, _, rfl, smA_el hx, ?_⟩
        cases h3 : aresA 0 9 (el (.tup xs) 2) with
        | false => rw [h3] at q; exact Cv.of q
        | true =>
          rw [h3, Bool.true_and] at q
          walk_at "dx"
          rw [gt_elk (k := 3) (i := 3) (by omega) rfl]
          refine ⟨_, _, _, rfl, smA_el hx, ?_⟩
          cases h4 : aresA 0 9 (el (.tup xs) 3) with
          | false => rw [h4] at q; exact Cv.of q
          | true =>
            rw [h4, Bool.true_and] at q
            walk_at "dx"
            rw [gt_elk (k := 4) (i := 4) (by omega) rfl]
            exact ⟨_, _, _, rfl, smA_el hx, Cv.of q⟩
def sg_has_graph_form : Spa := fun as A Q => ∃ x, as = [x] ∧ smA x = true ∧ Q (.bl (formA x)) A
theorem lc_same {keep : AHp → Prop} {g : TGa} {tt : TTa} {te : TEa} {env : AEnv} {xs : List AV} {A : AHp} {R : AV → AHp → Prop} (h : lcT keep g tt te env (xs.map fun x => x) A R) : lcT keep g tt te env xs A R := by rw [map_same] at h; exact h
def tg_has_graph_form : TSa :=
  (sSeq (sIf (aOrT (aNotT (vTru (aCall sg_is_tuple_of (aCons (vVar 0) (aCons (aC (.int 2)) (aCons (aC (.int 2)) aNil)))))) (aNotT (vTru (aCall sg_is_tuple_of (aCons (aOp ixV (vVar 0) (aC (.int 0))) (aCons (aC (.int 1)) (aCons (aC (.int 24)) aNil)))))))
      (sRet (aC (.bl false)))
      sNext)
    (sSeq (sIf (aOrT (aNotT (vTru (aCall sg_is_tuple_of (aCons (aOp ixV (vVar 0) (aC (.int 1))) (aCons (aC (.int 0)) (aCons (aC (.int 60)) aNil)))))) (aNotT (vTru (aCB vAll (aCons (vLc (jSq (aOp ixV (vVar 0) (aC (.int 0)))) (hName 2) aYes (aCall sg_is_task (aCons (vVar 2) aNil)) [2]) aNil)))))
      (sRet (aC (.bl false)))
      sNext)
    (sRet (aCB vAll (aCons (vLc (jSq (aOp ixV (vVar 0) (aC (.int 1)))) (hName 1) aYes (aCall sg_is_line (aCons (vVar 1) aNil)) [1]) aNil)))))
theorem rg_has_graph_form (as : List AV) (AH : AHp) (Q : AV → AHp → Prop) (h : sg_has_graph_form as AH Q) : tg_has_graph_form { nx := fun _ A2 => Cv Q .non A2, rt := Cv Q } (startA ["thing", "line", "task"] as) AH := by
  obtain ⟨x, rfl, hx, q⟩ := h
  refine ⟨x, 2, 2, rfl, hx, ?_⟩
  unfold formA at q
  cases hk : tupA 2 2 x with
  | false => rw [hk] at q; exact Cv.of q
  | true =>
    rw [hk, Bool.true_and] at q
    obtain ⟨xs, rfl, h1, h2⟩ := tupA_iff.mp hk
    walk_at "dx"
    rw [gt_elk (k := 0) (i := 0) (by omega) rfl]
    refine ⟨_, _, _, rfl, smA_el hx, ?_⟩
    cases hn : tupA 1 24 (el (.tup xs) 0) with
    | false => rw [hn] at q; exact Cv.of q
    | true =>
      rw [hn, Bool.true_and] at q
      obtain ⟨ts, et, _, _⟩ := tupA_iff.mp hn
      have st : smA (.tup ts) = true := by rw [← et]; exact smA_el hx
      walk_at "dx"
      rw [gt_elk (k := 1) (i := 1) (by omega) rfl]
      refine ⟨_, _, _, rfl, smA_el hx, ?_⟩
      cases hn2 : tupA 0 60 (el (.tup xs) 1) with
      | false => rw [hn2] at q; exact Cv.of q
      | true =>
        rw [hn2, Bool.true_and] at q
        obtain ⟨ls, el2, _, _⟩ := tupA_iff.mp hn2
        have sl : smA (.tup ls) = true := by rw [← el2]; exact smA_el hx
        walk_at "dx"
        rw [gt_elk (k := 0) (i := 0) (by omega) rfl, et]
        rw [et, el2] at q
        have q2 : Q (.bl (ts.all taskA && ls.all lineA)) AH := q
        refine lc_same (lc_map (keep := free) (fun x : AV => x) (fun x => .bl (taskA x)) (sz8 (smA_tup st).1) keep_free (fun n hn B _ T F hT => ?_) ?_)
        · exact ⟨n, rfl, (smA_tup st).2 n hn, hT⟩
        · refine all_bl ?_
          cases ha : ts.all taskA with
          | false => rw [ha] at q2; exact Cv.of q2
          | true =>
            rw [ha, Bool.true_and] at q2
            walk_at "dx"
            rw [gt_elk (k := 1) (i := 1) (by omega) rfl, el2]
            refine lc_same (lc_map (keep := free) (fun x : AV => x) (fun x => .bl (lineA x)) (sz8 (smA_tup sl).1) keep_free (fun n hn B _ T F hT => ?_) ?_)
            · exact ⟨n, rfl, (smA_tup sl).2 n hn, hT⟩
            · exact all_bl (Cv.of q2)
/-! ### refusals -/
def spb_need_number : Spx := fun as A Q E => ∃ (x : AV) (a b : Int), as = [x, .int a, .int b] ∧ smA x = true ∧ betwA a b x = false ∧ E (.exc "BadNumber" "value" x) A
def spx_need_number : Spx := fun as A Q E => sp_need_number as A Q ∨ spb_need_number as A Q E
def tx_need_number : TSa :=
  (sIf (aNotT (vTru (aCall sg_is_between (aCons (vVar 0) (aCons (vVar 1) (aCons (vVar 2) aNil))))))
      (sRaise "BadNumber" "value" (vVar 0))
      sNext)
theorem rdx_need_number (as : List AV) (AH : AHp) (Q E : AV → AHp → Prop) (h : spb_need_number as AH Q E) : tx_need_number { nx := fun _ A2 => Cv Q .non A2, rt := Cv Q, ex := fun x _ A' => E x A' } (startA ["thing", "least", "most"] as) AH := by
  obtain ⟨x, a, b, rfl, hx, hb, q⟩ := h
  refine ⟨x, a, b, rfl, hx, ?_⟩
  rw [hb]
  exact q
end D

set_option Elab.async false
set_option linter.all false
set_option maxRecDepth 100000
set_option maxHeartbeats 4000000
namespace D
open PySem PySem.Spec L2
local macro_rules | `(tactic| walk_at "dx") => `(tactic| conv => whnf)
/-! ### lines of any kind, and whether they fit -/
structure RL where
  o : Str
  t : Str
  gs : List Int
  ts : List Int
  st : Int
def encR (r : RL) : AV := .tup [.str r.o, .str r.t, .tup (r.gs.map .int), .tup (r.ts.map .int), .int r.st]
def encRG (T : List Task) (L : List RL) : AV := .tup [.tup (T.map encT), .tup (L.map encR)]
def tkOf (T : List Task) (s : Str) : Option Task := T.find? fun t => decide (t.nm = s)
def fitB (T : List Task) (r : RL) : Bool := match tkOf T r.o with
  | none => false
  | some a => match tkOf T r.t with
    | none => false
    | some b => decide (r.gs.length = a.ds.length) && (decide (r.ts.length = b.ds.length) && (decide (0 < r.gs.sum) && decide (0 < r.ts.sum)))
theorem tkOf_some {T : List Task} {s : Str} {a : Task} (h : tkOf T s = some a) : a.nm = s ∧ ∃ i : Nat, T[i]? = some a := by
  unfold tkOf at h
  exact ⟨by simpa using List.find?_some h, List.mem_iff_getElem?.mp (List.mem_of_find?_eq_some h)⟩
theorem valA_none {α : Type} {k : α → Str} {v : α → AV} {s : Str} {ys : List α} (h : ∀ y ∈ ys, k y ≠ s) : valA (ys.map fun y => (.inr (k y), v y)) (.inr s) = none := by
  unfold valA
  rw [show (ys.map fun y => ((Sum.inr (k y) : Key), v y)).find? (fun kv => decide (kv.1 = (Sum.inr s : Key))) = none from List.find?_eq_none.mpr fun p m => by
    obtain ⟨y, hy, rfl⟩ := List.mem_map.mp m
    intro e
    have e2 : (Sum.inr (k y) : Key) = Sum.inr s := by simpa using e
    exact h y hy (by injection e2)]
  rfl
theorem tkOf_none {T : List Task} {s : Str} (h : tkOf T s = none) : ∀ t ∈ T, t.nm ≠ s := fun t m => by
  unfold tkOf at h
  simpa using List.find?_eq_none.mp h t m
def sg_fits : Spa := fun as A Q => ∃ (T : List Task) (LS : AV) (r : RL), as = [.tup [.tup (T.map encT), LS], encR r] ∧ T.length ≤ 24 ∧ (T.map Task.nm).Nodup ∧ Q (.bl (fitB T r)) A
def tg_fits : TSa :=
  (sSeq (sAsg (vDc (jSq (aOp ixV (vVar 0) (aC (.int 0)))) (hName 3) aYes (aOp ixV (vVar 3) (aC (.int 0))) (aCB vLen (aCons (aOp ixV (vVar 3) (aC (.int 1))) aNil)) [3]) (hName 2))
    (sSeq (sIf (aOrT (vTest (aOp (inI true) (aOp ixV (vVar 1) (aC (.int 0))) (vVar 2))) (vTest (aOp (inI true) (aOp ixV (vVar 1) (aC (.int 1))) (vVar 2))))
      (sRet (aC (.bl false)))
      sNext)
    (sSeq (sIf (aOrT (vTest (aOp neW (aCB vLen (aCons (aOp ixV (vVar 1) (aC (.int 2))) aNil)) (aOp ixV (vVar 2) (aOp ixV (vVar 1) (aC (.int 0)))))) (vTest (aOp neW (aCB vLen (aCons (aOp ixV (vVar 1) (aC (.int 3))) aNil)) (aOp ixV (vVar 2) (aOp ixV (vVar 1) (aC (.int 1)))))))
      (sRet (aC (.bl false)))
      sNext)
    (sRet (vAnd (aOp gtR (aCB vSum (aCons (aOp ixV (vVar 1) (aC (.int 2))) aNil)) (aC (.int 0))) (aOp gtR (aCB vSum (aCons (aOp ixV (vVar 1) (aC (.int 3))) aNil)) (aC (.int 0))))))))
theorem rg_fits (as : List AV) (AH : AHp) (Q : AV → AHp → Prop) (h : sg_fits as AH Q) : tg_fits { nx := fun _ A2 => Cv Q .non A2, rt := Cv Q } (startA ["graph", "line", "phases", "task"] as) AH := by
  obtain ⟨T, LS, r, rfl, h2, nod, q⟩ := h
  have go : tg_fits { nx := fun _ A2 => Cv Q .non A2, rt := Cv Q } [some (.tup [.tup (T.map encT), LS]), some (encR r), none, none] AH := by
    walk_at "dx"
    refine dc_map (keep := free) encT Task.nm (fun t => .int (t.ds.map AV.int).length) (sz8 (by omega)) nod keep_free (fun t ht B _ T F hT => hT) fun p hp => ?_
    have lk : updA AH p (.dct (T.map fun t : Task => (Sum.inr t.nm, AV.int (t.ds.map AV.int).length))) p = some (.dct (T.map fun t : Task => (Sum.inr t.nm, AV.int (t.ds.map AV.int).length))) := updA_same
    walk_at "dx"
    unfold fitB at q
    cases ho : tkOf T r.o with
    | none =>
      rw [ho] at q
      refine in_key lk rfl ?_
      rw [valA_none (tkOf_none ho)]
      exact Cv.drop (SubA.new hp) q
    | some a =>
      rw [ho] at q
      obtain ⟨na, i, hi⟩ := tkOf_some ho
      have e1 := valA_map (v := fun t : Task => AV.int (t.ds.map AV.int).length) nod hi
      rw [na] at e1
      refine in_dct lk e1 ?_
      walk_at "dx"
      cases ht : tkOf T r.t with
      | none =>
        rw [ht] at q
        refine in_key lk rfl ?_
        rw [valA_none (tkOf_none ht)]
        exact Cv.drop (SubA.new hp) q
      | some b =>
        rw [ht] at q
        obtain ⟨nb, j, hj⟩ := tkOf_some ht
        have e2 := valA_map (v := fun t : Task => AV.int (t.ds.map AV.int).length) nod hj
        rw [nb] at e2
        refine in_dct lk e2 ?_
        walk_at "dx"
        rw [gt_dct lk e1]
        walk_at "dx"
        have q1 : Q (.bl (decide (r.gs.length = a.ds.length) && (decide (r.ts.length = b.ds.length) && (decide (0 < r.gs.sum) && decide (0 < r.ts.sum))))) AH := q
        by_cases c1 : r.gs.length = a.ds.length
        · refine dF (by simp; omega) ?_
          rw [decide_eq_true c1, Bool.true_and] at q1
          walk_at "dx"
          rw [gt_dct lk e2]
          walk_at "dx"
          by_cases c2 : r.ts.length = b.ds.length
          · refine dF (by simp; omega) ?_
            rw [decide_eq_true c2, Bool.true_and] at q1
            walk_at "dx"
            rw [aInts_map]
            walk_at "dx"
            by_cases c3 : 0 < r.gs.sum
            · refine dT (by simp; exact c3) ?_
              rw [decide_eq_true c3, Bool.true_and] at q1
              walk_at "dx"
              rw [aInts_map]
              walk_at "dx"
              exact Cv.drop (SubA.new hp) q1
            · refine dF (by simp; omega) ?_
              rw [decide_eq_false c3, Bool.false_and] at q1
              exact Cv.drop (SubA.new hp) q1
          · refine dT (by simp; omega) ?_
            rw [decide_eq_false c2, Bool.false_and] at q1
            exact Cv.drop (SubA.new hp) q1
        · refine dT (by simp; omega) ?_
          rw [decide_eq_false c1, Bool.false_and] at q1
          exact Cv.drop (SubA.new hp) q1
  exact go
/-! ### wrong graphs -/
def BadG (g : AV) (w : Str) : Prop := smA g = true ∧ ((formA g = false ∧ w = "form") ∨
  (formA g = true ∧ ∃ (T : List Task) (LS : List AV), g = .tup [.tup (T.map encT), .tup LS] ∧ T.length ≤ 24 ∧ ¬ (T.map Task.nm).Nodup ∧ w = "names") ∨
  (formA g = true ∧ ∃ (T : List Task) (L : List RL), g = encRG T L ∧ T.length ≤ 24 ∧ (T.map Task.nm).Nodup ∧ L.length ≤ 60 ∧ (∃ r ∈ L, fitB T r = false) ∧ w = "lines"))
theorem metsK_few {ks : List Key} (h : ¬ ks.Nodup) : (metsK ks ks.length).length < ks.length := by
  have le : ∀ (ks S : List Key), (ks.foldl metK S).length ≤ S.length + ks.length := by
    intro ks
    induction ks with
    | nil => intro S; simp
    | cons k r ih =>
      intro S
      have := ih (metK S k)
      rw [metK_len] at this
      rw [List.foldl_cons, List.length_cons]
      split at this <;> omega
  have go : ∀ (ks S : List Key), S.Nodup → S.length + ks.length ≤ (ks.foldl metK S).length → (S ++ ks).Nodup := by
    intro ks
    induction ks with
    | nil => intro S n _; simpa using n
    | cons k r ih =>
      intro S n hl
      rw [List.foldl_cons, List.length_cons] at hl
      by_cases hk : k ∈ S
      · have e : metK S k = S := by unfold metK; rw [if_pos hk]
        rw [e] at hl
        have := le r S
        omega
      · have e : metK S k = S ++ [k] := by unfold metK; rw [if_neg hk]
        rw [e] at hl
        have := ih (S ++ [k]) (List.nodup_append.mpr ⟨n, by simp, fun x hx y hy => by
          rw [List.mem_singleton] at hy
          rw [hy]
          exact fun z => hk (z ▸ hx)⟩) (by rw [List.length_append]; simp; omega)
        simpa using this
  refine Nat.lt_of_not_le fun hle => h ?_
  have := go ks [] (by simp) (by
    unfold metsK at hle
    rw [List.take_length] at hle
    simpa using hle)
  simpa using this
def spb_look_at_graph : Spx := fun as A Q E => ∃ (x : AV) (w : Str), as = [x] ∧ BadG x w ∧ E (.exc "BadGraph" "place" (.str w)) A
def spx_look_at_graph : Spx := fun as A Q E => sp_look_at_graph as A Q ∨ spb_look_at_graph as A Q E
def tx_look_at_graph : TSa :=
  (sSeq (sIf (aNotT (vTru (aCall sg_has_graph_form (aCons (vVar 0) aNil))))
      (sRaise "BadGraph" "place" (aC (.str "form")))
      sNext)
    (sSeq (sAsg (aCall sp_task_names (aCons (vVar 0) aNil)) (hName 1))
    (sSeq (sIf (vTest (aOp neW (vLenSet (vVar 1)) (aCB vLen (aCons (vVar 1) aNil))))
      (sRaise "BadGraph" "place" (aC (.str "names")))
      sNext)
    (sIf (aNotT (vTru (aCB vAll (aCons (vLc (jSq (aOp ixV (vVar 0) (aC (.int 1)))) (hName 2) aYes (aCall sg_fits (aCons (vVar 0) (aCons (vVar 2) aNil))) [2]) aNil))))
      (sRaise "BadGraph" "place" (aC (.str "lines")))
      sNext))))
theorem rdx_look_at_graph (as : List AV) (AH : AHp) (Q E : AV → AHp → Prop) (h : spb_look_at_graph as AH Q E) : tx_look_at_graph { nx := fun _ A2 => Cv Q .non A2, rt := Cv Q, ex := fun x _ A' => E x A' } (startA ["graph", "names", "line"] as) AH := by
  obtain ⟨x, w, rfl, ⟨hx, hb⟩, q⟩ := h
  refine ⟨x, rfl, hx, ?_⟩
  rcases hb with ⟨hf, rfl⟩ | ⟨hf, T, LS, rfl, h24, hn, rfl⟩ | ⟨hf, T, L, rfl, h24, nod, h60, ⟨r, hr, hrf⟩, rfl⟩
  · rw [hf]
    exact q
  · rw [hf]
    walk_at "dx"
    refine ⟨T, _, rfl, h24, ?_⟩
    rw [nms_eq]
    walk_at "dx"
    rw [keysL_strs]
    refine ⟨by rw [List.length_map]; unfold nms; rw [List.length_map]; omega, ?_⟩
    have few := metsK_few (ks := (nms T).map (Sum.inr : Str → Key)) fun z => hn (by
      rw [List.nodup_iff_pairwise_ne] at z ⊢
      exact List.Pairwise.of_map _ (fun a b ne e => ne (by rw [e])) z)
    refine dT (by
      simp
      simp at few
      omega) ?_
    exact q
  · rw [hf]
    walk_at "dx"
    refine ⟨T, _, rfl, h24, ?_⟩
    rw [nms_eq]
    walk_at "dx"
    rw [keysL_strs]
    refine ⟨by rw [List.length_map]; unfold nms; rw [List.length_map]; omega, ?_⟩
    have nd : ((nms T).map (Sum.inr : Str → Key)).Nodup := by
      unfold nms
      rw [List.nodup_iff_pairwise_ne] at nod ⊢
      exact List.Pairwise.map _ (fun a b ne e => ne (by injection e)) nod
    rw [metsK_nodup nd]
    walk_at "dx"
    refine dF (by simp) ?_
    walk_at "dx"
    refine lc_map (keep := free) encR (fun r => .bl (fitB T r)) (sz8 (by omega)) keep_free (fun l hl B _ T' F hT => ⟨T, _, l, rfl, h24, nod, hT⟩) ?_
    walk_at "dx"
    refine all_bl ?_
    rw [show L.all (fun r => fitB T r) = false from List.all_eq_false.mpr ⟨r, hr, by rw [hrf]; decide⟩]
    exact q
end D

set_option Elab.async false
set_option linter.all false
set_option maxRecDepth 100000
set_option maxHeartbeats 4000000
namespace D
open PySem PySem.Spec L2
local macro_rules | `(tactic| walk_at "dx") => `(tactic| conv => whnf)
/-! ### texts of tuples -/
/-- of so many levels, with a text of at most so many signs -/
def Tx : Nat → Nat → AV → Prop
  | 0, _, _ => False
  | n + 1, b, x => (∃ s : Str, x = .str s ∧ s.length ≤ b) ∨ (∃ i : Int, x = .int i ∧ 0 ≤ i ∧ i < 1000000 ∧ 6 ≤ b) ∨ ∃ (xs : List AV) (c : Nat), x = .tup xs ∧ (∀ y ∈ xs, Tx n c y) ∧ xs.length ≤ 60 ∧ 2 + xs.length * (c + 1) ≤ b
section
variable {keep : AHp → Prop} {g : TGa} {tt : TTa} {te : TEa} {env : AEnv}
theorem lc_any (P : AV → Prop) {items : List AV} {A : AHp} {Q : AV → AHp → Prop} (hlen : items.length ≤ sizeLine) (hk : ∀ p o, A p = none → keep (updA A p o))
    (step : ∀ x ∈ items, ∀ B : AHp, SubA A B → ∀ (T : AV → AHp → Prop) (F : AHp → Prop), (∀ v, P v → T v B) → g x env B fun e2 A2 => tt e2 A2 fun b A3 => if b = true then te e2 A3 T else F A3)
    (q : ∀ vs : List AV, vs.length = items.length → (∀ v ∈ vs, P v) → Q (.fl vs) A) : lcT keep g tt te env items A Q := by
  unfold lcT
  intro p hp
  refine ⟨hk p _ hp, rLc_inv (fun i acc B => acc.length = i ∧ (∀ v ∈ acc, P v) ∧ B = updA A p (.lst acc)) ⟨rfl, fun v m => by (cases m), rfl⟩ (fun i acc B ⟨_, _, e⟩ => by rw [e]; exact updA_same) (fun i x acc B hx ⟨ea, ep, eb⟩ T F hT hF => ?_) (fun acc B ⟨ea, ep, eb⟩ => ?_)⟩
  · have hi : i < items.length := (List.getElem?_eq_some_iff.mp hx).1
    subst eb
    refine step x (List.mem_of_getElem? hx) _ (SubA.new hp) T F fun v hv => ?_
    refine hT v _ ⟨updA_same, by omega, ?_, ?_, ?_, ?_⟩
    · rw [updA_upd]; exact hk p _ hp
    · rw [List.length_append, ea]; rfl
    · intro w m
      rcases List.mem_append.mp m with m | m
      · exact ep w m
      · rw [List.mem_singleton] at m; rw [m]; exact hv
    · rw [updA_upd]
  · subst eb
    show Q (.fl acc) _
    rw [delA_upd hp]
    exact q acc ea ep
end
def spn_tuple_text (n : Nat) : Spa := fun as A Q => ∃ (x : AV) (b : Nat), as = [x] ∧ Tx n b x ∧ b ≤ 200000 ∧ ∀ s : Str, s.length ≤ b → Q (.str s) A
theorem rz_tuple_text (as : List AV) (AH : AHp) (Q : AV → AHp → Prop) : ¬ spn_tuple_text 0 as AH Q := fun ⟨x, b, _, h, _⟩ => h
def t_tuple_text (sp_tuple_text : Spa) : TSa :=
  (sSeq (sIf (vTru (aCB vIsi (aCons (vVar 0) (aCons (aC (.ty "tuple")) aNil))))
      (sRet (aOp addR (aOp addR (aC (.str "(")) (vJoin (aC (.str " ")) (vLc (jSq (vVar 0)) (hName 1) aYes (aCall sp_tuple_text (aCons (vVar 1) aNil)) [1]))) (aC (.str ")"))))
      sNext)
    (sRet (aCB tStr2 (aCons (vVar 0) aNil))))
theorem all_strs {c : Nat} : ∀ {vs : List AV}, (∀ v ∈ vs, ∃ s : Str, v = .str s ∧ s.length ≤ c) → ∃ ss : List Str, vs = ss.map .str ∧ ∀ s ∈ ss, s.length ≤ c
  | [], _ => ⟨[], rfl, fun s m => by cases m⟩
  | v :: r, h => by
    obtain ⟨s, rfl, hs⟩ := h v (List.mem_cons_self ..)
    obtain ⟨ss, rfl, hss⟩ := all_strs fun w m => h w (List.mem_cons_of_mem _ m)
    exact ⟨s :: ss, rfl, fun t m => by
      rcases List.mem_cons.mp m with rfl | m
      · exact hs
      · exact hss t m⟩
theorem sum_leS {c : Nat} : ∀ {ss : List Str}, (∀ s ∈ ss, s.length ≤ c) → (ss.map (·.length)).sum ≤ ss.length * c
  | [], _ => by simp
  | s :: r, h => by
    have := sum_leS fun t m => h t (List.mem_cons_of_mem _ m)
    have := h s (List.mem_cons_self ..)
    simp only [List.map_cons, List.sum_cons, List.length_cons, Nat.succ_mul]
    omega
theorem rd_tuple_text (n : Nat) (as : List AV) (AH : AHp) (Q : AV → AHp → Prop) (h : spn_tuple_text (n + 1) as AH Q) : t_tuple_text (spn_tuple_text n) { nx := fun _ A2 => Cv Q .non A2, rt := Cv Q } (startA ["thing", "part"] as) AH := by
  obtain ⟨x, b, rfl, hx, hb, q⟩ := h
  rcases hx with ⟨s, rfl, hs⟩ | ⟨i, rfl, h0, h1, h6⟩ | ⟨xs, c, rfl, hxs, hl, hw⟩
  · walk_at "dx"
    unfold tStr2
    exact .inr ⟨s, rfl, Cv.of (q s hs)⟩
  · walk_at "dx"
    unfold tStr2
    refine .inl ⟨i, rfl, ?_, Cv.of (q _ ?_)⟩
    · have : i.natAbs.log2 < 20 := by
        rcases Nat.eq_zero_or_pos i.natAbs with e | e
        · rw [e]; decide
        · exact (Nat.log2_lt (by omega)).mpr (by omega)
      omega
    · have := PyProof.Rows.toString_length_le (v := i) h0 (k := 6) (by decide) (by omega)
      exact Nat.le_trans this h6
  · walk_at "dx"
    refine lc_any (keep := free) (fun v => ∃ s : Str, v = .str s ∧ s.length ≤ c) (sz8 (by omega)) keep_free (fun y hy B _ T F hT => ?_) fun vs hvl hvs => ?_
    · refine ⟨y, c, rfl, hxs y hy, ?_, fun s hs => hT _ ⟨s, rfl, hs⟩⟩
      have : 1 ≤ xs.length := List.length_pos_iff.mpr fun e => by rw [e] at hy; cases hy
      have := Nat.le_trans (Nat.le_mul_of_pos_left (c + 1) this) (show xs.length * (c + 1) ≤ b by omega)
      omega
    obtain ⟨ss, rfl, hss⟩ := all_strs hvs
    have hsl : ss.length = xs.length := by simpa using hvl
    have hsum := sum_leS hss
    have hmul : ss.length * c + ss.length = xs.length * (c + 1) := by rw [hsl, Nat.mul_add, Nat.mul_one]
    walk_at "dx"
    rw [aStrs_map]
    have e1 : (" " : Str).length = 1 := by decide
    refine ⟨?_, ?_⟩
    · show _ + ss.length * (" " : Str).length ≤ _
      rw [e1]; omega
    have jl : (Txt.join " " ss).length ≤ (ss.map (·.length)).sum + ss.length * 1 := by
      have h := StrLaws.join_length_le " " ss
      rw [e1] at h
      unfold Txt.join
      rw [PySem.StrLaws.glued_eq_join]
      exact h
    have e2 : ("(" : Str).length = 1 := by decide
    have e3 : (")" : Str).length = 1 := by decide
    walk_at "dx"
    refine ⟨?_, ?_⟩
    · show ("(" : Str).length + (Txt.join " " ss).length ≤ _
      rw [e2]; exact Nat.le_trans (by omega : _ ≤ 300000) (by decide)
    walk_at "dx"
    refine ⟨?_, ?_⟩
    · show (("(" : Str) ++ Txt.join " " ss).length + (")" : Str).length ≤ _
      rw [Str.length_append, e2, e3]; exact Nat.le_trans (by omega : _ ≤ 300000) (by decide)
    refine Cv.of (q _ ?_)
    rw [Str.length_append, Str.length_append, e2, e3]
    omega
def sp_tuple_text : Spa := spn_tuple_text 6
theorem tx_mono {n b c : Nat} {x : AV} (h : Tx n b x) (hb : b ≤ c) : Tx n c x := by
  cases n with
  | zero => exact h
  | succ n =>
    rcases h with ⟨s, e, h⟩ | ⟨i, e, h0, h1, h6⟩ | ⟨xs, d, e, h1, h2, h3⟩
    · exact .inl ⟨s, e, by omega⟩
    · exact .inr (.inl ⟨i, e, h0, h1, by omega⟩)
    · exact .inr (.inr ⟨xs, d, e, h1, h2, by omega⟩)
theorem tx_ints {n : Nat} {ns : List Int} (h : ∀ i ∈ ns, (0 : Int) ≤ i ∧ i < 1000000) (hl : ns.length ≤ 24) : Tx (n + 2) 170 (.tup (ns.map .int)) :=
  .inr (.inr ⟨_, 6, rfl, fun y m => by
    obtain ⟨i, hi, rfl⟩ := List.mem_map.mp m
    exact .inr (.inl ⟨i, rfl, (h i hi).1, (h i hi).2, by omega⟩), by rw [List.length_map]; omega, by rw [List.length_map]; omega⟩)
theorem nm_short {G : Gr} (ok : GoodG G) {k : Nat} : (nmAt G.tasks k).length ≤ 8 := by
  unfold nmAt
  cases e : G.tasks[k]? with
  | none => exact Nat.zero_le _
  | some t => exact (ok.ts t (List.mem_of_getElem? e)).nm.len.2
theorem tx_graph {G : Gr} (ok : GoodG G) : Tx 6 200000 (encG G) := by
  have h24 := ok.len
  have h60 := ok.lin
  have ht : Tx 5 10000 (.tup (G.tasks.map encT)) := .inr (.inr ⟨_, 344, rfl, fun y m => by
    obtain ⟨t, hm, rfl⟩ := List.mem_map.mp m
    have to := ok.ts t hm
    refine .inr (.inr ⟨_, 170, rfl, fun y m => ?_, by simp, by simp⟩)
    simp only [List.mem_cons, List.not_mem_nil, or_false] at m
    rcases m with rfl | rfl
    · exact .inl ⟨_, rfl, by have := to.nm.len.2; omega⟩
    · exact tx_ints (n := 1) (fun i hi => by have := to.all i hi; omega) to.len.2, by rw [List.length_map]; omega, by rw [List.length_map]; omega⟩)
  have hl : Tx 5 60000 (.tup (G.lines.map (encL G.tasks))) := .inr (.inr ⟨_, 857, rfl, fun y m => by
    obtain ⟨l, hm, rfl⟩ := List.mem_map.mp m
    have lo := ok.ls l hm
    obtain ⟨a, ha, hga⟩ := lo.ot
    obtain ⟨b, hb, hgb⟩ := lo.tt
    have la := (ok.ts a (List.mem_of_getElem? ha)).len.2
    have lb := (ok.ts b (List.mem_of_getElem? hb)).len.2
    refine .inr (.inr ⟨_, 170, rfl, fun y m => ?_, by simp, by simp⟩)
    simp only [List.mem_cons, List.not_mem_nil, or_false] at m
    rcases m with rfl | rfl | rfl | rfl | rfl
    · exact .inl ⟨_, rfl, Nat.le_trans (nm_short ok) (by decide)⟩
    · exact .inl ⟨_, rfl, Nat.le_trans (nm_short ok) (by decide)⟩
    · exact tx_ints (n := 1) (fun i hi => by have := lo.gs i hi; omega) (by omega)
    · exact tx_ints (n := 1) (fun i hi => by have := lo.ts i hi; omega) (by omega)
    · exact .inr (.inl ⟨_, rfl, lo.st.1, by have := lo.st.2; omega, by omega⟩), by rw [List.length_map]; omega, by rw [List.length_map]; omega⟩)
  refine .inr (.inr ⟨_, 60000, rfl, fun y m => ?_, by simp, by simp⟩)
  simp only [List.mem_cons, List.not_mem_nil, or_false] at m
  rcases m with rfl | rfl
  · exact tx_mono ht (by omega)
  · exact hl
def sp_graph_text : Spa := fun as A Q => ∃ G, as = [encG G] ∧ GoodG G ∧ ∀ s : Str, Q (.str s) A
def t_graph_text : TSa :=
  (sSeq (sDrop (aCall sp_look_at_graph (aCons (vVar 0) aNil)))
    (sRet (aCall sp_tuple_text (aCons (vVar 0) aNil))))
theorem rd_graph_text (as : List AV) (AH : AHp) (Q : AV → AHp → Prop) (h : sp_graph_text as AH Q) : t_graph_text { nx := fun _ A2 => Cv Q .non A2, rt := Cv Q } (startA ["graph"] as) AH := by
  obtain ⟨G, rfl, ok, q⟩ := h
  exact ⟨G, rfl, ok, ⟨encG G, 200000, rfl, tx_graph ok, Nat.le_refl _, fun s _ => Cv.of (q s)⟩⟩
def sp_need_graph : Spa := fun as A Q => ∃ G, as = [encG G] ∧ GoodG G ∧ Q .non A
def t_need_graph : TSa :=
  (sDrop (aCall sp_look_at_graph (aCons (vVar 0) aNil)))
theorem rd_need_graph (as : List AV) (AH : AHp) (Q : AV → AHp → Prop) (h : sp_need_graph as AH Q) : t_need_graph { nx := fun _ A2 => Cv Q .non A2, rt := Cv Q } (startA ["graph"] as) AH := by
  obtain ⟨G, rfl, ok, q⟩ := h
  exact ⟨G, rfl, ok, Cv.of q⟩
end D

set_option Elab.async false
set_option linter.all false
set_option maxRecDepth 100000
set_option maxHeartbeats 4000000
namespace D
open PySem PySem.Spec L2
local macro_rules | `(tactic| walk_at "dx") => `(tactic| conv => whnf)
/-! ### what is no state -/
def stForm (x : AV) : Bool := tupA 2 2 x && (aresA 0 23 (el x 0) && aresA 0 999999 (el x 1))
def PhOk (G : Gr) (S : Sta) : Prop := S.ph.length = G.tasks.length ∧ ∀ p ∈ S.ph.zip G.tasks, p.1 < (p.2.ds.length : Nat)
/-- the place that is wrong -/
def StW (G : Gr) (x : AV) (w : Str) : Prop := (stForm x = false ∧ w = "form") ∨ ∃ S, x = encS S ∧ stForm x = true ∧ S.ph.length ≤ 1000 ∧ ((¬ PhOk G S ∧ w = "phases") ∨ (PhOk G S ∧ S.st.length ≠ G.lines.length ∧ w = "stocks"))
def BadSt (G : Gr) (x : AV) (E : AV → AHp → Prop) (A : AHp) : Prop := ∃ w, smA x = true ∧ StW G x w ∧ E (.exc "BadState" "place" (.str w)) A
def spb_look_at_state : Spx := fun as A Q E => ∃ (G : Gr) (x : AV), as = [encG G, x] ∧ GoodG G ∧ BadSt G x E A
def spx_look_at_state : Spx := fun as A Q E => sp_look_at_state as A Q ∨ spb_look_at_state as A Q E
theorem all_false {xs : List Bool} (h : false ∈ xs) : (xs.all fun b => b) = false := by
  rw [List.all_eq_false]
  exact ⟨false, h, by decide⟩
def tx_look_at_state : TSa :=
  (sSeq (sIf (aOrT (aNotT (vTru (aCall sg_is_tuple_of (aCons (vVar 1) (aCons (aC (.int 2)) (aCons (aC (.int 2)) aNil)))))) (aNotT (vTru (aCall sg_are_between (aCons (aOp ixV (vVar 1) (aC (.int 0))) (aCons (aC (.int 0)) (aCons (aOp subR (aC (.int 24)) (aC (.int 1))) aNil)))))))
      (sRaise "BadState" "place" (aC (.str "form")))
      sNext)
    (sSeq (sIf (aNotT (vTru (aCall sg_are_between (aCons (aOp ixV (vVar 1) (aC (.int 1))) (aCons (aC (.int 0)) (aCons (aC (.int 999999)) aNil))))))
      (sRaise "BadState" "place" (aC (.str "form")))
      sNext)
    (sSeq (sIf (vTest (aOp neW (aCB vLen (aCons (aOp ixV (vVar 1) (aC (.int 0))) aNil)) (aCB vLen (aCons (aOp ixV (vVar 0) (aC (.int 0))) aNil))))
      (sRaise "BadState" "place" (aC (.str "phases")))
      sNext)
    (sSeq (sIf (aNotT (vTru (aCB vAll (aCons (vLc (iZp (aCons (aOp ixV (vVar 1) (aC (.int 0))) (aCons (aOp ixV (vVar 0) (aC (.int 0))) aNil))) (kTup 2 (kCons (hName 2) (kCons (hName 3) kNil))) aYes (aOp ltR (vVar 2) (aCB vLen (aCons (aOp ixV (vVar 3) (aC (.int 1))) aNil))) [2, 3]) aNil))))
      (sRaise "BadState" "place" (aC (.str "phases")))
      sNext)
    (sIf (vTest (aOp neW (aCB vLen (aCons (aOp ixV (vVar 1) (aC (.int 1))) aNil)) (aCB vLen (aCons (aOp ixV (vVar 0) (aC (.int 1))) aNil))))
      (sRaise "BadState" "place" (aC (.str "stocks")))
      sNext)))))
theorem rdx_look_at_state (as : List AV) (AH : AHp) (Q E : AV → AHp → Prop) (h : spb_look_at_state as AH Q E) : tx_look_at_state { nx := fun _ A2 => Cv Q .non A2, rt := Cv Q, ex := fun x _ A' => E x A' } (startA ["graph", "state", "phase", "task"] as) AH := by
  obtain ⟨G, x, rfl, ok, w, hx, hw, q⟩ := h
  have h24 := ok.len
  have h60 := ok.lin
  refine ⟨x, 2, 2, rfl, hx, ?_⟩
  rcases hw with ⟨hf, rfl⟩ | ⟨S, rfl, hf, hl, hw⟩
  · unfold stForm at hf
    cases hk : tupA 2 2 x with
    | false => exact q
    | true =>
      rw [hk, Bool.true_and] at hf
      obtain ⟨xs, rfl, h1, h2⟩ := tupA_iff.mp hk
      walk_at "dx"
      rw [gt_elk (k := 0) (i := 0) (by omega) rfl]
      refine ⟨_, _, _, rfl, smA_el hx, ?_⟩
      cases ha : aresA 0 23 (el (.tup xs) 0) with
      | false =>
        have ha2 : aresA 0 (24 - 1) (el (.tup xs) 0) = false := ha
        rw [ha2]
        exact q
      | true =>
        have ha2 : aresA 0 (24 - 1) (el (.tup xs) 0) = true := ha
        rw [ha2]
        rw [ha, Bool.true_and] at hf
        walk_at "dx"
        rw [gt_elk (k := 1) (i := 1) (by omega) rfl]
        refine ⟨_, _, _, rfl, smA_el hx, ?_⟩
        rw [hf]
        exact q
  · unfold stForm at hf
    have e1 : el (encS S) 0 = .tup (S.ph.map .int) := rfl
    have e2 : el (encS S) 1 = .tup (S.st.map .int) := rfl
    rw [e1, e2] at hf
    simp only [Bool.and_eq_true] at hf
    obtain ⟨hf0, hf1, hf2⟩ := hf
    rw [hf0]
    walk_at "dx"
    refine ⟨_, _, _, rfl, smA_el (i := 0) hx, ?_⟩
    have hf1' : aresA 0 (24 - 1) (.tup (S.ph.map .int)) = true := hf1
    rw [hf1']
    walk_at "dx"
    refine ⟨_, _, _, rfl, smA_el (i := 1) hx, ?_⟩
    rw [hf2]
    walk_at "dx"
    by_cases hp : S.ph.length = G.tasks.length
    · refine dF (by simp [hp]) ?_
      walk_at "dx"
      rw [zip_map]
      refine lc_map (keep := free) (fun p : Int × Task => .tup [.int p.1, encT p.2]) (fun p => .bl (decide (p.1 < ((p.2.ds.map AV.int).length : Nat)))) (sz8 (by rw [List.length_zip]; omega)) keep_free (fun p hp B _ T F hT => hT) ?_
      refine all_bl ?_
      by_cases hz : ∀ p ∈ S.ph.zip G.tasks, p.1 < (p.2.ds.length : Nat)
      · rcases hw with ⟨hw, _⟩ | ⟨_, hs, rfl⟩
        · exact absurd ⟨hp, hz⟩ hw
        · rw [List.all_eq_true.mpr fun p m => decide_eq_true (by rw [List.length_map]; exact hz p m)]
          walk_at "dx"
          refine dT (by simp; omega) ?_
          exact q
      · rcases hw with ⟨_, rfl⟩ | ⟨hw, _⟩
        · have : ((S.ph.zip G.tasks).all fun p => decide (p.1 < ((p.2.ds.map AV.int).length : Nat))) = false := by
            rw [List.all_eq_false]
            obtain ⟨p, hp2⟩ := Classical.not_forall.mp hz
            obtain ⟨m, hn⟩ := Classical.not_imp.mp hp2
            exact ⟨p, m, by rw [List.length_map]; simpa using hn⟩
          rw [this]
          exact q
        · exact absurd hw.2 hz
    · rcases hw with ⟨_, rfl⟩ | ⟨hw, _⟩
      · refine dT (by simp; omega) ?_
        exact q
      · exact absurd hw.1 hp
/-! ### wrong graphs, and wrong things behind good ones -/
def BadE (g : AV) (E : AV → AHp → Prop) (A : AHp) : Prop := ∃ w, BadG g w ∧ E (.exc "BadGraph" "place" (.str w)) A
theorem BadE.mono {g : AV} {E E' : AV → AHp → Prop} {A : AHp} (m : ∀ y A, E y A → E' y A) (h : BadE g E A) : BadE g E' A := by
  obtain ⟨w, a, b⟩ := h
  exact ⟨w, a, m _ _ b⟩
def spb_need_graph : Spx := fun as A Q E => ∃ (g : AV), as = [g] ∧ BadE g E A
def spx_need_graph : Spx := fun as A Q E => sp_need_graph as A Q ∨ spb_need_graph as A Q E
def tx_need_graph : TSa :=
  (sDropX (aCallX spx_look_at_graph (aCons (vVar 0) aNil)))
theorem rdx_need_graph (as : List AV) (AH : AHp) (Q E : AV → AHp → Prop) (h : spb_need_graph as AH Q E) : tx_need_graph { nx := fun _ A2 => Cv Q .non A2, rt := Cv Q, ex := fun x _ A' => E x A' } (startA ["graph"] as) AH := by
  obtain ⟨g, rfl, w, hb, q⟩ := h
  exact .inr ⟨g, w, rfl, hb, q⟩
def spb_first_state : Spx := fun as A Q E => ∃ (g : AV), as = [g] ∧ BadE g E A
def spx_first_state : Spx := fun as A Q E => sp_first_state as A Q ∨ spb_first_state as A Q E
def tx_first_state : TSa :=
  (sSeq (sDropX (aCallX spx_look_at_graph (aCons (vVar 0) aNil)))
    (sRet (aCall sp_beginning (aCons (vVar 0) aNil))))
theorem rdx_first_state (as : List AV) (AH : AHp) (Q E : AV → AHp → Prop) (h : spb_first_state as AH Q E) : tx_first_state { nx := fun _ A2 => Cv Q .non A2, rt := Cv Q, ex := fun x _ A' => E x A' } (startA ["graph"] as) AH := by
  obtain ⟨g, rfl, w, hb, q⟩ := h
  exact .inr ⟨g, w, rfl, hb, q⟩
def spb_graph_text : Spx := fun as A Q E => ∃ (g : AV), as = [g] ∧ BadE g E A
def spx_graph_text : Spx := fun as A Q E => sp_graph_text as A Q ∨ spb_graph_text as A Q E
def tx_graph_text : TSa :=
  (sSeq (sDropX (aCallX spx_look_at_graph (aCons (vVar 0) aNil)))
    (sRet (aCall sp_tuple_text (aCons (vVar 0) aNil))))
theorem rdx_graph_text (as : List AV) (AH : AHp) (Q E : AV → AHp → Prop) (h : spb_graph_text as AH Q E) : tx_graph_text { nx := fun _ A2 => Cv Q .non A2, rt := Cv Q, ex := fun x _ A' => E x A' } (startA ["graph"] as) AH := by
  obtain ⟨g, rfl, w, hb, q⟩ := h
  exact .inr ⟨g, w, rfl, hb, q⟩
def BadS (g x : AV) (E : AV → AHp → Prop) (A : AHp) : Prop := BadE g E A ∨ ∃ G, g = encG G ∧ GoodG G ∧ BadSt G x E A
def spb_need_state : Spx := fun as A Q E => ∃ (g x : AV), as = [g, x] ∧ BadS g x E A
def spx_need_state : Spx := fun as A Q E => sp_need_state as A Q ∨ spb_need_state as A Q E
def tx_need_state : TSa :=
  (sSeq (sDropX (aCallX spx_look_at_graph (aCons (vVar 0) aNil)))
    (sDropX (aCallX spx_look_at_state (aCons (vVar 0) (aCons (vVar 1) aNil)))))
theorem rdx_need_state (as : List AV) (AH : AHp) (Q E : AV → AHp → Prop) (h : spb_need_state as AH Q E) : tx_need_state { nx := fun _ A2 => Cv Q .non A2, rt := Cv Q, ex := fun x _ A' => E x A' } (startA ["graph", "state"] as) AH := by
  obtain ⟨g, x, rfl, ⟨w, hb, q⟩ | ⟨G, rfl, ok, h⟩⟩ := h
  · exact .inr ⟨g, w, rfl, hb, q⟩
  · exact .inl ⟨G, rfl, ok, .inr ⟨G, x, rfl, ok, h⟩⟩
def spb_can_fire : Spx := fun as A Q E => ∃ (g x : AV), as = [g, x] ∧ BadS g x E A
def spx_can_fire : Spx := fun as A Q E => sp_can_fire as A Q ∨ spb_can_fire as A Q E
def tx_can_fire : TSa :=
  (sSeq (sDropX (aCallX spx_look_at_graph (aCons (vVar 0) aNil)))
    (sSeq (sDropX (aCallX spx_look_at_state (aCons (vVar 0) (aCons (vVar 1) aNil))))
    (sSeq (sAsg (aLst aNil) (hName 2))
    (sSeq (sForV (jEnu (aCons (aCall sp_leading_to (aCons (vVar 0) aNil)) aNil)) (kTup 2 (kCons (hName 3) (kCons (hName 4) kNil)))
      (sIf (vTru (aCall sp_is_ready (aCons (vVar 0) (aCons (vVar 1) (aCons (vVar 3) (aCons (vVar 4) aNil))))))
        (sDrop (vML nApp (vVar 2) (aCons (aOp ixV (aOp ixV (aOp ixV (vVar 0) (aC (.int 0))) (vVar 3)) (aC (.int 0))) aNil)))
        sNext))
    (sRet (aCB vTuple (aCons (vVar 2) aNil)))))))
theorem rdx_can_fire (as : List AV) (AH : AHp) (Q E : AV → AHp → Prop) (h : spb_can_fire as AH Q E) : tx_can_fire { nx := fun _ A2 => Cv Q .non A2, rt := Cv Q, ex := fun x _ A' => E x A' } (startA ["graph", "state", "ready", "number", "lines"] as) AH := by
  obtain ⟨g, x, rfl, ⟨w, hb, q⟩ | ⟨G, rfl, ok, h⟩⟩ := h
  · exact .inr ⟨g, w, rfl, hb, q⟩
  · exact .inl ⟨G, rfl, ok, .inr ⟨G, x, rfl, ok, h⟩⟩
def spb_graph_at : Spx := fun as A Q E => ∃ (g x : AV), as = [g, x] ∧ BadS g x E A
def spx_graph_at : Spx := fun as A Q E => sp_graph_at as A Q ∨ spb_graph_at as A Q E
def tx_graph_at : TSa :=
  (sSeq (sDropX (aCallX spx_need_state (aCons (vVar 0) (aCons (vVar 1) aNil))))
    (sRet (aCall sp_at_state (aCons (vVar 0) (aCons (vVar 1) aNil)))))
theorem rdx_graph_at (as : List AV) (AH : AHp) (Q E : AV → AHp → Prop) (h : spb_graph_at as AH Q E) : tx_graph_at { nx := fun _ A2 => Cv Q .non A2, rt := Cv Q, ex := fun x _ A' => E x A' } (startA ["graph", "state"] as) AH := by
  obtain ⟨g, x, rfl, h⟩ := h
  exact .inr ⟨g, x, rfl, h⟩
def spb_fired : Spx := fun as A Q E => ∃ (g x y : AV), as = [g, x, y] ∧ BadS g x E A
def spx_fired : Spx := fun as A Q E => sp_fired as A Q ∨ spb_fired as A Q E
def tx_fired : TSa :=
  (sSeq (sDropX (aCallX spx_look_at_graph (aCons (vVar 0) aNil)))
    (sSeq (sDropX (aCallX spx_look_at_state (aCons (vVar 0) (aCons (vVar 1) aNil))))
    (sSeq (sAsg (aCall sp_task_number (aCons (vVar 0) (aCons (vVar 2) aNil))) (hName 3))
    (sSeq (sParV 4 5 (aCons (aCB vListM (aCons (aOp ixV (vVar 1) (aC (.int 0))) aNil)) (aCons (aCB vListM (aCons (aOp ixV (vVar 1) (aC (.int 1))) aNil)) aNil)))
    (sSeq (sIf (aNotT (vTru (aCall sp_fire (aCons (vVar 0) (aCons (vVar 4) (aCons (vVar 5) (aCons (vVar 3) (aCons (aOp ixV (aCall sp_leading_to (aCons (vVar 0) aNil)) (vVar 3)) (aCons (aOp ixV (aCall sp_leading_from (aCons (vVar 0) aNil)) (vVar 3)) aNil)))))))))
      (sRaise "BadFiring" "value" (vVar 2))
      sNext)
    (sRet (aTup (aCons (aCB vTuple (aCons (vVar 4) aNil)) (aCons (aCB vTuple (aCons (vVar 5) aNil)) aNil)))))))))
theorem rdx_fired (as : List AV) (AH : AHp) (Q E : AV → AHp → Prop) (h : spb_fired as AH Q E) : tx_fired { nx := fun _ A2 => Cv Q .non A2, rt := Cv Q, ex := fun x _ A' => E x A' } (startA ["graph", "state", "name", "number", "phases", "stocks"] as) AH := by
  obtain ⟨g, x, y, rfl, ⟨w, hb, q⟩ | ⟨G, rfl, ok, h⟩⟩ := h
  · exact .inr ⟨g, w, rfl, hb, q⟩
  · exact .inl ⟨G, rfl, ok, .inr ⟨G, x, rfl, ok, h⟩⟩
def BadLn (g x : AV) (E : AV → AHp → Prop) (A : AHp) : Prop := BadE g E A ∨ ∃ G, g = encG G ∧ GoodG G ∧ smA x = true ∧ betwA 0 (((G.lines.length : Nat) : Int) - 1) x = false ∧ E (.exc "BadNumber" "value" x) A
def spb_look_at_line : Spx := fun as A Q E => ∃ (g x : AV), as = [g, x] ∧ BadLn g x E A
def spx_look_at_line : Spx := fun as A Q E => sp_look_at_line as A Q ∨ spb_look_at_line as A Q E
def tx_look_at_line : TSa :=
  (sSeq (sDropX (aCallX spx_look_at_graph (aCons (vVar 0) aNil)))
    (sDropX (aCallX spx_need_number (aCons (vVar 1) (aCons (aC (.int 0)) (aCons (aOp subR (aCB vLen (aCons (aOp ixV (vVar 0) (aC (.int 1))) aNil)) (aC (.int 1))) aNil))))))
theorem rdx_look_at_line (as : List AV) (AH : AHp) (Q E : AV → AHp → Prop) (h : spb_look_at_line as AH Q E) : tx_look_at_line { nx := fun _ A2 => Cv Q .non A2, rt := Cv Q, ex := fun x _ A' => E x A' } (startA ["graph", "line"] as) AH := by
  obtain ⟨g, x, rfl, ⟨w, hb, q⟩ | ⟨G, rfl, ok, hx, hb, q⟩⟩ := h
  · exact .inr ⟨g, w, rfl, hb, q⟩
  · refine .inl ⟨G, rfl, ok, ?_⟩
    refine .inr ⟨x, 0, _, rfl, hx, ?_, q⟩
    rw [List.length_map]; exact hb
def spb_gave : Spx := fun as A Q E => ∃ (g l c : AV), as = [g, l, c] ∧ BadLn g l E A
def spx_gave : Spx := fun as A Q E => sp_gave as A Q ∨ spb_gave as A Q E
def tx_gave : TSa :=
  (sSeq (sDropX (aCallX spx_look_at_line (aCons (vVar 0) (aCons (vVar 1) aNil))))
    (sSeq (sDropX (aCallX spx_need_number (aCons (vVar 2) (aCons (aC (.int 0)) (aCons (aC (.int 100000)) aNil)))))
    (sRet (aCall sp_counted (aCons (aOp ixV (aOp ixV (aOp ixV (vVar 0) (aC (.int 1))) (vVar 1)) (aC (.int 2))) (aCons (vVar 2) aNil))))))
theorem rdx_gave (as : List AV) (AH : AHp) (Q E : AV → AHp → Prop) (h : spb_gave as AH Q E) : tx_gave { nx := fun _ A2 => Cv Q .non A2, rt := Cv Q, ex := fun x _ A' => E x A' } (startA ["graph", "line", "count"] as) AH := by
  obtain ⟨g, l, c, rfl, h⟩ := h
  exact .inr ⟨g, l, rfl, h⟩
def spb_took : Spx := fun as A Q E => ∃ (g l c : AV), as = [g, l, c] ∧ BadLn g l E A
def spx_took : Spx := fun as A Q E => sp_took as A Q ∨ spb_took as A Q E
def tx_took : TSa :=
  (sSeq (sDropX (aCallX spx_look_at_line (aCons (vVar 0) (aCons (vVar 1) aNil))))
    (sSeq (sDropX (aCallX spx_need_number (aCons (vVar 2) (aCons (aC (.int 0)) (aCons (aC (.int 100000)) aNil)))))
    (sRet (aCall sp_counted (aCons (aOp ixV (aOp ixV (aOp ixV (vVar 0) (aC (.int 1))) (vVar 1)) (aC (.int 3))) (aCons (vVar 2) aNil))))))
theorem rdx_took (as : List AV) (AH : AHp) (Q E : AV → AHp → Prop) (h : spb_took as AH Q E) : tx_took { nx := fun _ A2 => Cv Q .non A2, rt := Cv Q, ex := fun x _ A' => E x A' } (startA ["graph", "line", "count"] as) AH := by
  obtain ⟨g, l, c, rfl, h⟩ := h
  exact .inr ⟨g, l, rfl, h⟩
def spb_need : Spx := fun as A Q E => ∃ (g l c : AV), as = [g, l, c] ∧ BadLn g l E A
def spx_need : Spx := fun as A Q E => sp_need as A Q ∨ spb_need as A Q E
def tx_need : TSa :=
  (sSeq (sDropX (aCallX spx_look_at_line (aCons (vVar 0) (aCons (vVar 1) aNil))))
    (sSeq (sDropX (aCallX spx_need_number (aCons (vVar 2) (aCons (aC (.int 0)) (aCons (aC (.int 100000)) aNil)))))
    (sRet (aCall sp_need_told (aCons (aOp ixV (aOp ixV (vVar 0) (aC (.int 1))) (vVar 1)) (aCons (vVar 2) aNil))))))
theorem rdx_need (as : List AV) (AH : AHp) (Q E : AV → AHp → Prop) (h : spb_need as AH Q E) : tx_need { nx := fun _ A2 => Cv Q .non A2, rt := Cv Q, ex := fun x _ A' => E x A' } (startA ["graph", "line", "firing"] as) AH := by
  obtain ⟨g, l, c, rfl, h⟩ := h
  exact .inr ⟨g, l, rfl, h⟩
/-! ### the law's calls -/
def sp__law_called : Spa := fun as A Q => ∃ (t : Int) (G : Gr), as = [.int t, encG G] ∧ 0 ≤ t ∧ t ≤ 2 ∧ GoodG G ∧ Q .non A
def t__law_called : TSa :=
  (sIf (vTest (aOp eqW (vVar 0) (aC (.int 0))))
      (sDrop (aCall sp_need_graph (aCons (vVar 1) aNil)))
      (sIf (vTest (aOp eqW (vVar 0) (aC (.int 1))))
        (sDrop (aCall sp_first_state (aCons (vVar 1) aNil)))
        (sIf (vTest (aOp eqW (vVar 0) (aC (.int 2))))
          (sDrop (aCall sp_graph_text (aCons (vVar 1) aNil)))
          (sIf (vTest (aOp eqW (vVar 0) (aC (.int 3))))
            (sDrop (aCall sp_need_state (aCons (vVar 1) (aCons (aC (.int 0)) aNil))))
            (sIf (vTest (aOp eqW (vVar 0) (aC (.int 4))))
              (sDrop (aCall sp_graph_at (aCons (vVar 1) (aCons (aC (.int 0)) aNil))))
              (sIf (vTest (aOp eqW (vVar 0) (aC (.int 5))))
                (sDrop (aCall sp_can_fire (aCons (vVar 1) (aCons (aC (.int 0)) aNil))))
                (sIf (vTest (aOp eqW (vVar 0) (aC (.int 6))))
                  (sDrop (aCall sp_fired (aCons (vVar 1) (aCons (aC (.int 0)) (aCons (aC (.int 0)) aNil)))))
                  (sIf (vTest (aOp eqW (vVar 0) (aC (.int 7))))
                    (sDrop (aCall sp_gave (aCons (vVar 1) (aCons (vNeg (aC (.int 1))) (aCons (vNeg (aC (.int 1))) aNil)))))
                    (sIf (vTest (aOp eqW (vVar 0) (aC (.int 8))))
                      (sDrop (aCall sp_took (aCons (vVar 1) (aCons (vNeg (aC (.int 1))) (aCons (vNeg (aC (.int 1))) aNil)))))
                      (sDrop (aCall sp_need (aCons (vVar 1) (aCons (vNeg (aC (.int 1))) (aCons (vNeg (aC (.int 1))) aNil))))))))))))))
theorem rd__law_called (as : List AV) (AH : AHp) (Q : AV → AHp → Prop) (h : sp__law_called as AH Q) : t__law_called { nx := fun _ A2 => Cv Q .non A2, rt := Cv Q } (startA ["turn", "graph"] as) AH := by
  obtain ⟨t, G, rfl, h0, h1, ok, q⟩ := h
  have hc : t = 0 ∨ t = 1 ∨ t = 2 := by omega
  rcases hc with rfl | rfl | rfl
  · exact ⟨G, rfl, ok, Cv.of q⟩
  · exact ⟨G, rfl, ok, Cv.of q⟩
  · exact ⟨G, rfl, ok, fun s => Cv.of q⟩
def spb__law_called : Spx := fun as A Q E => ∃ (t : Int) (g : AV), as = [.int t, g] ∧ 0 ≤ t ∧ t ≤ 9 ∧ (BadE g E A ∨ (3 ≤ t ∧ ∃ G, g = encG G ∧ GoodG G ∧ E (.exc "BadState" "place" (.str "form")) A ∧ E (.exc "BadNumber" "value" (.int (-1))) A))
def spx__law_called : Spx := fun as A Q E => sp__law_called as A Q ∨ spb__law_called as A Q E
def tx__law_called : TSa :=
  (sIf (vTest (aOp eqW (vVar 0) (aC (.int 0))))
      (sDropX (aCallX spx_need_graph (aCons (vVar 1) aNil)))
      (sIf (vTest (aOp eqW (vVar 0) (aC (.int 1))))
        (sDropX (aCallX spx_first_state (aCons (vVar 1) aNil)))
        (sIf (vTest (aOp eqW (vVar 0) (aC (.int 2))))
          (sDropX (aCallX spx_graph_text (aCons (vVar 1) aNil)))
          (sIf (vTest (aOp eqW (vVar 0) (aC (.int 3))))
            (sDropX (aCallX spx_need_state (aCons (vVar 1) (aCons (aC (.int 0)) aNil))))
            (sIf (vTest (aOp eqW (vVar 0) (aC (.int 4))))
              (sDropX (aCallX spx_graph_at (aCons (vVar 1) (aCons (aC (.int 0)) aNil))))
              (sIf (vTest (aOp eqW (vVar 0) (aC (.int 5))))
                (sDropX (aCallX spx_can_fire (aCons (vVar 1) (aCons (aC (.int 0)) aNil))))
                (sIf (vTest (aOp eqW (vVar 0) (aC (.int 6))))
                  (sDropX (aCallX spx_fired (aCons (vVar 1) (aCons (aC (.int 0)) (aCons (aC (.int 0)) aNil)))))
                  (sIf (vTest (aOp eqW (vVar 0) (aC (.int 7))))
                    (sDropX (aCallX spx_gave (aCons (vVar 1) (aCons (vNeg (aC (.int 1))) (aCons (vNeg (aC (.int 1))) aNil)))))
                    (sIf (vTest (aOp eqW (vVar 0) (aC (.int 8))))
                      (sDropX (aCallX spx_took (aCons (vVar 1) (aCons (vNeg (aC (.int 1))) (aCons (vNeg (aC (.int 1))) aNil)))))
                      (sDropX (aCallX spx_need (aCons (vVar 1) (aCons (vNeg (aC (.int 1))) (aCons (vNeg (aC (.int 1))) aNil))))))))))))))
theorem rdx__law_called (as : List AV) (AH : AHp) (Q E : AV → AHp → Prop) (h : spb__law_called as AH Q E) : tx__law_called { nx := fun _ A2 => Cv Q .non A2, rt := Cv Q, ex := fun x _ A' => E x A' } (startA ["turn", "graph"] as) AH := by
  obtain ⟨t, g, rfl, h0, h9, h⟩ := h
  have hc : t = 0 ∨ t = 1 ∨ t = 2 ∨ t = 3 ∨ t = 4 ∨ t = 5 ∨ t = 6 ∨ t = 7 ∨ t = 8 ∨ t = 9 := by omega
  have st : 3 ≤ t → BadS g (.int 0) E AH := fun h3 => by
    rcases h with h | ⟨_, G, rfl, ok, q, _⟩
    · exact .inl h
    · exact .inr ⟨G, rfl, ok, "form", rfl, .inl ⟨rfl, rfl⟩, q⟩
  have ln : 3 ≤ t → BadLn g (.int (-1)) E AH := fun h3 => by
    rcases h with h | ⟨_, G, rfl, ok, _, q⟩
    · exact .inl h
    · exact .inr ⟨G, rfl, ok, rfl, by simp [betwA], q⟩
  have gr : t < 3 → BadE g E AH := fun h3 => by
    rcases h with h | ⟨h4, _⟩
    · exact h
    · omega
  rcases hc with rfl | rfl | rfl | rfl | rfl | rfl | rfl | rfl | rfl | rfl
  · exact .inr ⟨g, rfl, gr (by decide)⟩
  · exact .inr ⟨g, rfl, gr (by decide)⟩
  · exact .inr ⟨g, rfl, gr (by decide)⟩
  · exact .inr ⟨g, _, rfl, st (by decide)⟩
  · exact .inr ⟨g, _, rfl, st (by decide)⟩
  · exact .inr ⟨g, _, rfl, st (by decide)⟩
  · exact .inr ⟨g, _, _, rfl, st (by decide)⟩
  · exact .inr ⟨g, _, _, rfl, ln (by decide)⟩
  · exact .inr ⟨g, _, _, rfl, ln (by decide)⟩
  · exact .inr ⟨g, _, _, rfl, ln (by decide)⟩
def sp__law_refused : Spa := fun as A Q => ∃ (t : Int) (g : AV), as = [.int t, g] ∧ 0 ≤ t ∧ t ≤ 9 ∧ ((∃ G, g = encG G ∧ GoodG G ∧ Q .non A) ∨ ∃ w, BadG g w ∧ Q (.str w) A)
def t__law_refused : TSa :=
  (sSeq (sTry ["BadName", "BadNumber", "BadFiring", "BadGraph", "BadState"] subE
      (sDropX (aCallX spx__law_called (aCons (vVar 0) (aCons (vVar 1) aNil))))
      [⟨"BadGraph", some 2, fun a d => (sRet (aXf a d "place" (vVar 2)))⟩,
      ⟨"RateError", none, fun a d => (sRet (aC .non))⟩])
    (sRet (aC .non)))
theorem rd__law_refused (as : List AV) (AH : AHp) (Q : AV → AHp → Prop) (h : sp__law_refused as AH Q) : t__law_refused { nx := fun _ A2 => Cv Q .non A2, rt := Cv Q } (startA ["turn", "graph", "e"] as) AH := by
  obtain ⟨t, g, rfl, h0, h9, h⟩ := h
  rcases h with ⟨G, rfl, ok, q⟩ | ⟨w, hb, q⟩
  · by_cases h3 : 3 ≤ t
    · refine .inr ⟨t, _, rfl, h0, h9, .inr ⟨h3, G, rfl, ok, ?_, ?_⟩⟩
      · refine ⟨by simp, ?_⟩
        unfold tryH
        rw [show subE "BadState" "BadGraph" = false by decide]
        unfold tryH
        rw [show subE "BadState" "RateError" = true by decide]
        exact fun a d => Cv.of q
      · refine ⟨by simp, ?_⟩
        unfold tryH
        rw [show subE "BadNumber" "BadGraph" = false by decide]
        unfold tryH
        rw [show subE "BadNumber" "RateError" = true by decide]
        exact fun a d => Cv.of q
    · exact .inl ⟨t, G, rfl, h0, by omega, ok, Cv.of q⟩
  · refine .inr ⟨t, g, rfl, h0, h9, .inl ⟨w, hb, ?_⟩⟩
    refine ⟨by simp, ?_⟩
    unfold tryH
    rw [show subE "BadGraph" "BadGraph" = true by decide]
    exact fun a d => ⟨_, rfl, Cv.of q⟩
end D

set_option Elab.async false
set_option linter.all false
set_option maxRecDepth 100000
set_option maxHeartbeats 4000000
namespace D
open PySem PySem.Spec L2
local macro_rules | `(tactic| walk_at "dx") => `(tactic| conv => whnf)
local macro_rules | `(tactic| walk_at "szz") => `(tactic| refine ⟨by first | (simp; done) | (simp; decide) | exact sz8 (by simp; omega), ?_⟩)
/-! ### what is good is found good -/
theorem name_good {s : Str} (h : NameOk s) : nameB s = true := by
  obtain ⟨c, hc, hcl⟩ := h.fst
  unfold nameB
  rw [hc]
  simp only [Bool.and_eq_true, decide_eq_true_eq, List.all_eq_true]
  exact ⟨h.len.1, h.len.2, hcl, h.all⟩
theorem ares_good {a b : Int} {ns : List Int} (h : ∀ n ∈ ns, a ≤ n ∧ n ≤ b) : aresA a b (.tup (ns.map .int)) = true := by
  show (ns.map AV.int).all (betwA a b) = true
  rw [List.all_eq_true]
  intro x m
  obtain ⟨i, hi, rfl⟩ := List.mem_map.mp m
  have := h i hi
  show (decide (a ≤ i) && decide (i ≤ b)) = true
  rw [decide_eq_true this.1, decide_eq_true this.2]; rfl
theorem task_good {t : Task} (h : TaskOk t) : taskA (encT t) = true := by
  have e : taskA (encT t) = (true && (nameB t.nm && (tupA 1 24 (.tup (t.ds.map .int)) && aresA 1 99 (.tup (t.ds.map .int))))) := rfl
  rw [e, name_good h.nm, ares_good h.all]
  have := h.len
  have e2 : tupA 1 24 (.tup (t.ds.map .int)) = true := tupA_iff.mpr ⟨_, rfl, by rw [List.length_map]; omega, by rw [List.length_map]; omega⟩
  rw [e2]; rfl
/-- a line with the form of one -/
structure RLOk (r : RL) : Prop where
  o : nameB r.o = true
  t : nameB r.t = true
  gs : ∀ d ∈ r.gs, (0 : Int) ≤ d ∧ d ≤ 9
  ts : ∀ d ∈ r.ts, (0 : Int) ≤ d ∧ d ≤ 9
  st : 0 ≤ r.st ∧ r.st ≤ 99999
  lo : r.o.length ≤ 1000
  lt : r.t.length ≤ 1000
  lg : r.gs.length ≤ 1000
  ls : r.ts.length ≤ 1000
theorem line_good {r : RL} (h : RLOk r) : lineA (encR r) = true := by
  have e : lineA (encR r) = (true && (nameB r.o && (nameB r.t && (aresA 0 9 (.tup (r.gs.map .int)) && (aresA 0 9 (.tup (r.ts.map .int)) && (decide (0 ≤ r.st) && decide (r.st ≤ 99999))))))) := rfl
  rw [e, h.o, h.t, ares_good h.gs, ares_good h.ts, decide_eq_true h.st.1, decide_eq_true h.st.2]; rfl
theorem smA_ints {ns : List Int} (h : ns.length ≤ 1000) : smA (.tup (ns.map .int)) = true := smA_mk (by rw [List.length_map]; exact h) fun x m => by
  obtain ⟨i, _, rfl⟩ := List.mem_map.mp m
  rfl
theorem smA_str {s : Str} (h : s.length ≤ 1000) : smA (.str s) = true := by
  simp only [smA, decide_eq_true_eq]; exact h
theorem smA_cons {l : List AV} (h : l.length ≤ 1000) (k : smAs l = true) : smA (.tup l) = true := by
  simp only [smA, Bool.and_eq_true, decide_eq_true_eq]; exact ⟨h, k⟩
theorem smA_task {t : Task} (h : t.nm.length ≤ 1000) (k : t.ds.length ≤ 1000) : smA (encT t) = true := smA_cons (by simp) (by
  simp only [smAs, smA_str h, smA_ints k, Bool.and_self])
theorem smA_int {i : Int} : smA (.int i) = true := by simp only [smA]
theorem smA_line {r : RL} (h : RLOk r) : smA (encR r) = true := smA_cons (by simp) (by
  simp only [smAs, smA_str h.lo, smA_str h.lt, smA_ints h.lg, smA_ints h.ls, smA_int, Bool.and_self])
/-! ### what is no task, and no line -/
def NoTk (x : AV) : Prop := smA x = true ∧ taskA x = false
def NoLn (x : AV) : Prop := smA x = true ∧ lineA x = false
def sp__law_wrong_tasks : Spa := fun as A Q => ∃ s : Str, as = [.str s] ∧ s = "zz9" ∧ ∀ rows : List AV, rows.length ≤ 30 → (∀ x ∈ rows, NoTk x) → Q (.fl rows) A
def t__law_wrong_tasks : TSa :=
  (sSeq (sAsg (aFl (aCons (aTup (aCons (vVar 0) aNil)) (aCons (aTup (aCons (vVar 0) (aCons (aTup (aCons (aC (.int 1)) aNil)) (aCons (aTup aNil) aNil)))) (aCons (aFl (aCons (vVar 0) (aCons (aTup (aCons (aC (.int 1)) aNil)) aNil))) (aCons (aTup (aCons (vVar 0) (aCons (aFl (aCons (aC (.int 1)) aNil)) aNil))) (aCons (aTup (aCons (vVar 0) (aCons (aTup aNil) aNil))) (aCons (aTup (aCons (vVar 0) (aCons (aTup (aCons (aC (.int 0)) aNil)) aNil))) (aCons (aTup (aCons (vVar 0) (aCons (aTup (aCons (aC (.int 100)) aNil)) aNil))) (aCons (aTup (aCons (vVar 0) (aCons (aTup (aCons (aC (.bl true)) aNil)) aNil))) (aCons (aTup (aCons (vVar 0) (aCons (aTup (aCons (aC (.str "1")) aNil)) aNil))) aNil)))))))))) (hName 1))
    (sSeq (sAsg (aOp addL (vVar 1) (aFl (aCons (aTup (aCons (vVar 0) (aCons (aTup (aCons (aC (.int 1)) (aCons (aC .non) aNil))) aNil))) (aCons (aTup (aCons (vVar 0) (aCons (aC (.int 1)) aNil))) (aCons (aTup (aCons (vVar 0) (aCons (aOp mulT (aTup (aCons (aC (.int 1)) aNil)) (aC (.int 25))) aNil))) (aCons (aTup (aCons (aC (.str "")) (aCons (aTup (aCons (aC (.int 1)) aNil)) aNil))) (aCons (aTup (aCons (aC (.str "1a")) (aCons (aTup (aCons (aC (.int 1)) aNil)) aNil))) (aCons (aTup (aCons (aC (.str "A")) (aCons (aTup (aCons (aC (.int 1)) aNil)) aNil))) (aCons (aTup (aCons (aC (.str "abcdefghi")) (aCons (aTup (aCons (aC (.int 1)) aNil)) aNil))) (aCons (aTup (aCons (aC (.str "a b")) (aCons (aTup (aCons (aC (.int 1)) aNil)) aNil))) aNil)))))))))) (hName 1))
    (sRet (aOp addL (vVar 1) (aFl (aCons (aTup (aCons (aC (.str "a
")) (aCons (aTup (aCons (aC (.int 1)) aNil)) aNil))) (aCons (aTup (aCons (aC (.int 5)) (aCons (aTup (aCons (aC (.int 1)) aNil)) aNil))) (aCons (aTup (aCons (aC .non) (aCons (aTup (aCons (aC (.int 1)) aNil)) aNil))) (aCons (aTup (aCons (aFl (aCons (vVar 0) aNil)) (aCons (aTup (aCons (aC (.int 1)) aNil)) aNil))) (aCons (aTup (aCons (aTup (aCons (vVar 0) aNil)) (aCons (aTup (aCons (aC (.int 1)) aNil)) aNil))) (aCons (vVar 0) (aCons (aC .non) (aCons (aTup aNil) aNil)))))))))))))
theorem rd__law_wrong_tasks (as : List AV) (AH : AHp) (Q : AV → AHp → Prop) (h : sp__law_wrong_tasks as AH Q) : t__law_wrong_tasks { nx := fun _ A2 => Cv Q .non A2, rt := Cv Q } (startA ["name", "rows"] as) AH := by
  obtain ⟨s, rfl, rfl, q⟩ := h
  walk_at "dx"
  repeat (first | walk_at "szz" | refine ⟨by simp, by decide, by decide, by simp, ?_⟩)
  refine Cv.of (q _ (by decide) fun x m => ?_)
  have key : (smA x && !taskA x) = true := (List.all_eq_true (p := fun x => smA x && !taskA x)).mp (by decide +kernel) x m
  simp only [Bool.and_eq_true, Bool.not_eq_true'] at key
  exact key
def sp__law_wrong_lines : Spa := fun as A Q => ∃ s : Str, as = [.str s] ∧ nameB s = true ∧ s.length ≤ 1000 ∧ ∀ rows : List AV, rows.length ≤ 30 → (∀ x ∈ rows, NoLn x) → Q (.fl rows) A
def t__law_wrong_lines : TSa :=
  (sSeq (sAsg (aFl (aCons (aTup (aCons (vVar 0) (aCons (vVar 0) (aCons (aTup (aCons (aC (.int 1)) aNil)) (aCons (aTup (aCons (aC (.int 1)) aNil)) aNil))))) (aCons (aTup (aCons (vVar 0) (aCons (vVar 0) (aCons (aTup (aCons (aC (.int 1)) aNil)) (aCons (aTup (aCons (aC (.int 1)) aNil)) (aCons (aC (.int 0)) (aCons (aC (.int 0)) aNil))))))) (aCons (aFl (aCons (vVar 0) (aCons (vVar 0) (aCons (aTup (aCons (aC (.int 1)) aNil)) (aCons (aTup (aCons (aC (.int 1)) aNil)) (aCons (aC (.int 0)) aNil)))))) (aCons (aTup (aCons (vVar 0) (aCons (vVar 0) (aCons (aFl (aCons (aC (.int 1)) aNil)) (aCons (aTup (aCons (aC (.int 1)) aNil)) (aCons (aC (.int 0)) aNil)))))) aNil))))) (hName 1))
    (sSeq (sAsg (aOp addL (vVar 1) (aFl (aCons (aTup (aCons (vVar 0) (aCons (vVar 0) (aCons (aTup (aCons (aC (.int 1)) aNil)) (aCons (aC (.int 1)) (aCons (aC (.int 0)) aNil)))))) (aCons (aTup (aCons (vVar 0) (aCons (vVar 0) (aCons (aTup (aCons (aC (.int 10)) aNil)) (aCons (aTup (aCons (aC (.int 1)) aNil)) (aCons (aC (.int 0)) aNil)))))) (aCons (aTup (aCons (vVar 0) (aCons (vVar 0) (aCons (aTup (aCons (aC (.int 1)) aNil)) (aCons (aTup (aCons (vNeg (aC (.int 1))) aNil)) (aCons (aC (.int 0)) aNil)))))) (aCons (aTup (aCons (vVar 0) (aCons (vVar 0) (aCons (aTup (aCons (aC (.bl true)) aNil)) (aCons (aTup (aCons (aC (.int 1)) aNil)) (aCons (aC (.int 0)) aNil)))))) aNil)))))) (hName 1))
    (sSeq (sAsg (aOp addL (vVar 1) (aFl (aCons (aTup (aCons (vVar 0) (aCons (vVar 0) (aCons (aTup (aCons (aC (.int 1)) aNil)) (aCons (aTup (aCons (aC (.str "1")) aNil)) (aCons (aC (.int 0)) aNil)))))) (aCons (aTup (aCons (vVar 0) (aCons (vVar 0) (aCons (aTup (aCons (aC (.int 1)) aNil)) (aCons (aTup (aCons (aC (.int 1)) aNil)) (aCons (vNeg (aC (.int 1))) aNil)))))) (aCons (aTup (aCons (vVar 0) (aCons (vVar 0) (aCons (aTup (aCons (aC (.int 1)) aNil)) (aCons (aTup (aCons (aC (.int 1)) aNil)) (aCons (aC (.int 100000)) aNil)))))) (aCons (aTup (aCons (vVar 0) (aCons (vVar 0) (aCons (aTup (aCons (aC (.int 1)) aNil)) (aCons (aTup (aCons (aC (.int 1)) aNil)) (aCons (aC .non) aNil)))))) aNil)))))) (hName 1))
    (sSeq (sAsg (aOp addL (vVar 1) (aFl (aCons (aTup (aCons (vVar 0) (aCons (vVar 0) (aCons (aTup (aCons (aC (.int 1)) aNil)) (aCons (aTup (aCons (aC (.int 1)) aNil)) (aCons (aC (.bl false)) aNil)))))) (aCons (aTup (aCons (vVar 0) (aCons (aC (.int 5)) (aCons (aTup (aCons (aC (.int 1)) aNil)) (aCons (aTup (aCons (aC (.int 1)) aNil)) (aCons (aC (.int 0)) aNil)))))) (aCons (aTup (aCons (aFl (aCons (vVar 0) aNil)) (aCons (vVar 0) (aCons (aTup (aCons (aC (.int 1)) aNil)) (aCons (aTup (aCons (aC (.int 1)) aNil)) (aCons (aC (.int 0)) aNil)))))) (aCons (aTup (aCons (aC (.str "A")) (aCons (vVar 0) (aCons (aTup (aCons (aC (.int 1)) aNil)) (aCons (aTup (aCons (aC (.int 1)) aNil)) (aCons (aC (.int 0)) aNil)))))) (aCons (aC .non) (aCons (vVar 0) aNil)))))))) (hName 1))
    (sRet (aOp addL (vVar 1) (aFl (aCons (aTup (aCons (vVar 0) (aCons (aTup (aCons (vVar 0) aNil)) (aCons (aTup (aCons (aC (.int 1)) aNil)) (aCons (aTup (aCons (aC (.int 1)) aNil)) (aCons (aC (.int 0)) aNil)))))) (aCons (aTup (aCons (vVar 0) (aCons (vVar 0) (aCons (aTup (aCons (aC (.int 1)) aNil)) (aCons (aTup (aCons (aC (.int 1)) aNil)) (aCons (aTup (aCons (aC (.int 0)) aNil)) aNil)))))) (aCons (aTup (aCons (vVar 0) (aCons (aC (.str "")) (aCons (aTup (aCons (aC (.int 1)) aNil)) (aCons (aTup (aCons (aC (.int 1)) aNil)) (aCons (aC (.int 0)) aNil)))))) aNil))))))))))
theorem rd__law_wrong_lines (as : List AV) (AH : AHp) (Q : AV → AHp → Prop) (h : sp__law_wrong_lines as AH Q) : t__law_wrong_lines { nx := fun _ A2 => Cv Q .non A2, rt := Cv Q } (startA ["name", "rows"] as) AH := by
  obtain ⟨s, rfl, hs, hl, q⟩ := h
  walk_at "dx"
  repeat (first | walk_at "szz" | refine ⟨by simp, by decide, by decide, by simp, ?_⟩)
  refine Cv.of (q _ (by simp) fun x m => ?_)
  have hsm : decide (s.length ≤ 1000) = true := decide_eq_true hl
  have hA : nameB "A" = false := by decide +kernel
  have hE : nameB "" = false := by decide +kernel
  have key : (smA x && !lineA x) = true := (List.all_eq_true (p := fun x => smA x && !lineA x)).mp (by
    simp only [List.all_append, List.all_cons, List.all_nil, smA, smAs, hsm, lineA, tupA, el, elts, aresA, betwA, nameA, hs, hA, hE, List.length_cons, List.length_nil, List.getD_cons_zero, List.getD_cons_succ]
    rfl) x m
  simp only [Bool.and_eq_true, Bool.not_eq_true'] at key
  exact key
end D

set_option Elab.async false
set_option linter.all false
set_option maxRecDepth 100000
set_option maxHeartbeats 4000000
namespace D
open PySem PySem.Spec L2
local macro_rules | `(tactic| walk_at "dx") => `(tactic| conv => whnf)
local macro_rules | `(tactic| walk_at "szz") => `(tactic| refine ⟨by first | (simp; done) | (simp; decide) | exact sz8 (by simp; omega), ?_⟩)
/-! ### graphs with one thing wrong -/
abbrev encW (p : AV × Str) : AV := .tup [p.1, .str p.2]
abbrev gA (xs ys : List AV) : AV := .tup [.tup xs, .tup ys]
theorem sm_g2 {xs ys : List AV} (hx : ∀ x ∈ xs, smA x = true) (hy : ∀ x ∈ ys, smA x = true) (l1 : xs.length ≤ 1000) (l2 : ys.length ≤ 1000) : smA (gA xs ys) = true := smA_cons (by simp) (by
  simp only [smAs, smA_mk l1 hx, smA_mk l2 hy, Bool.and_self])
theorem smA_nil : smA (.tup []) = true := smA_cons (by simp) (by simp only [smAs])
theorem smA_fl {xs : List AV} : smA (.fl xs) = smA (.tup xs) := by simp only [smA]
theorem form_g {xs ys : List AV} : formA (gA xs ys) = (true && ((decide (1 ≤ ((xs.length : Nat) : Int)) && decide (((xs.length : Nat) : Int) ≤ 24)) && ((decide (0 ≤ ((ys.length : Nat) : Int)) && decide (((ys.length : Nat) : Int) ≤ 60)) && (xs.all taskA && ys.all lineA)))) := rfl
theorem form_true {xs ys : List AV} (l1 : 1 ≤ xs.length) (l2 : xs.length ≤ 24) (l3 : ys.length ≤ 60) (hx : ∀ x ∈ xs, taskA x = true) (hy : ∀ x ∈ ys, lineA x = true) : formA (gA xs ys) = true := by
  rw [form_g, List.all_eq_true.mpr hx, List.all_eq_true.mpr hy]
  simp only [Bool.true_and, Bool.and_true, Bool.and_eq_true, decide_eq_true_eq]
  omega
theorem form_ftask {xs ys : List AV} {x : AV} (m : x ∈ xs) (h : taskA x = false) : formA (gA xs ys) = false := by
  rw [form_g, show xs.all taskA = false from List.all_eq_false.mpr ⟨x, m, by rw [h]; decide⟩]
  simp only [Bool.false_and, Bool.and_false]
theorem form_fline {xs ys : List AV} {x : AV} (m : x ∈ ys) (h : lineA x = false) : formA (gA xs ys) = false := by
  rw [form_g, show ys.all lineA = false from List.all_eq_false.mpr ⟨x, m, by rw [h]; decide⟩]
  simp only [Bool.and_false]
theorem form_fmany {xs ys : List AV} (h : 24 < xs.length) : formA (gA xs ys) = false := by
  rw [form_g, show decide (((xs.length : Nat) : Int) ≤ 24) = false from decide_eq_false (by omega)]
  simp only [Bool.and_false, Bool.false_and]
theorem form_flong {xs ys : List AV} (h : 60 < ys.length) : formA (gA xs ys) = false := by
  rw [form_g, show decide (((ys.length : Nat) : Int) ≤ 60) = false from decide_eq_false (by omega)]
  simp only [Bool.and_false, Bool.false_and]
theorem bad_form {g : AV} (h : smA g = true) (k : formA g = false) : BadG g "form" := ⟨h, .inl ⟨k, rfl⟩⟩
def toR (T : List Task) (l : Ln) : RL := ⟨nmAt T l.o, nmAt T l.t, l.gs, l.ts, l.st⟩
theorem map_toR (T : List Task) (Ls : List Ln) : Ls.map (encL T) = (Ls.map (toR T)).map encR := by rw [List.map_map]; rfl
theorem toR_ok {G : Gr} (ok : GoodG G) {l : Ln} (m : l ∈ G.lines) : RLOk (toR G.tasks l) := by
  have lo := ok.ls l m
  obtain ⟨a, ha, hga⟩ := lo.ot
  obtain ⟨b, hb, hgb⟩ := lo.tt
  have ta := ok.ts a (List.mem_of_getElem? ha)
  have tb := ok.ts b (List.mem_of_getElem? hb)
  have la := ta.len.2
  have lb := tb.len.2
  have na := ta.nm.len.2
  have nb := tb.nm.len.2
  exact ⟨by show nameB (nmAt G.tasks l.o) = true; rw [nmAt_of ha]; exact name_good ta.nm, by show nameB (nmAt G.tasks l.t) = true; rw [nmAt_of hb]; exact name_good tb.nm, lo.gs, lo.ts, lo.st,
    by show (nmAt G.tasks l.o).length ≤ 1000; rw [nmAt_of ha]; omega, by show (nmAt G.tasks l.t).length ≤ 1000; rw [nmAt_of hb]; omega, by show l.gs.length ≤ 1000; omega, by show l.ts.length ≤ 1000; omega⟩
theorem bad_names {T : List Task} {L : List RL} (ts : ∀ t ∈ T, TaskOk t) (ls : ∀ r ∈ L, RLOk r) (h1 : 1 ≤ T.length) (h24 : T.length ≤ 24) (h60 : L.length ≤ 60) (nd : ¬ (T.map Task.nm).Nodup) : BadG (encRG T L) "names" := by
  refine ⟨sm_g2 (fun x m => ?_) (fun x m => ?_) (by rw [List.length_map]; omega) (by rw [List.length_map]; omega), .inr (.inl ⟨form_true (by rw [List.length_map]; omega) (by rw [List.length_map]; omega) (by rw [List.length_map]; omega) (fun x m => ?_) (fun x m => ?_), T, _, rfl, h24, nd, rfl⟩)⟩
  · obtain ⟨t, ht, rfl⟩ := List.mem_map.mp m
    have to := ts t ht
    exact smA_task (by have := to.nm.len; omega) (by have := to.len; omega)
  · obtain ⟨r, hr, rfl⟩ := List.mem_map.mp m
    exact smA_line (ls r hr)
  · obtain ⟨t, ht, rfl⟩ := List.mem_map.mp m
    exact task_good (ts t ht)
  · obtain ⟨r, hr, rfl⟩ := List.mem_map.mp m
    exact line_good (ls r hr)
theorem bad_lines {T : List Task} {L : List RL} {r : RL} (ts : ∀ t ∈ T, TaskOk t) (ls : ∀ r ∈ L, RLOk r) (h1 : 1 ≤ T.length) (h24 : T.length ≤ 24) (h60 : L.length ≤ 60) (nd : (T.map Task.nm).Nodup) (hr : r ∈ L) (hf : fitB T r = false) : BadG (encRG T L) "lines" := by
  refine ⟨sm_g2 (fun x m => ?_) (fun x m => ?_) (by rw [List.length_map]; omega) (by rw [List.length_map]; omega), .inr (.inr ⟨form_true (by rw [List.length_map]; omega) (by rw [List.length_map]; omega) (by rw [List.length_map]; omega) (fun x m => ?_) (fun x m => ?_), T, L, rfl, h24, nd, h60, ⟨r, hr, hf⟩, rfl⟩)⟩
  · obtain ⟨t, ht, rfl⟩ := List.mem_map.mp m
    have to := ts t ht
    exact smA_task (by have := to.nm.len; omega) (by have := to.len; omega)
  · obtain ⟨r, hr, rfl⟩ := List.mem_map.mp m
    exact smA_line (ls r hr)
  · obtain ⟨t, ht, rfl⟩ := List.mem_map.mp m
    exact task_good (ts t ht)
  · obtain ⟨r, hr, rfl⟩ := List.mem_map.mp m
    exact line_good (ls r hr)
theorem flat_ints (n : Nat) (i : Int) : (List.replicate n [AV.int i]).flatten = (List.replicate n i).map .int := by rw [flat_rep, List.map_replicate]
theorem lc_id {keep : AHp → Prop} {g : TGa} {tt : TTa} {te : TEa} {env : AEnv} (h : AV → AV) {ys : List AV} {A : AHp} {Q : AV → AHp → Prop} (hlen : ys.length ≤ sizeLine) (hk : ∀ p o, A p = none → keep (updA A p o))
    (step : ∀ y ∈ ys, ∀ B : AHp, SubA A B → ∀ (T : AV → AHp → Prop) (F : AHp → Prop), T (h y) B → g y env B fun e2 A2 => tt e2 A2 fun b A3 => if b = true then te e2 A3 T else F A3)
    (q : Q (.fl (ys.map h)) A) : lcT keep g tt te env ys A Q := by
  have := lc_map (keep := keep) (g := g) (tt := tt) (te := te) (env := env) (fun x : AV => x) h (ys := ys) (A := A) (Q := Q) hlen hk step q
  rw [map_same] at this
  exact this
def Rows (L : List (AV × Str)) (n : Nat) : Prop := L.length = n ∧ ∀ p ∈ L, BadG p.1 p.2
theorem Rows.app {L M : List (AV × Str)} {n m : Nat} (h : Rows L n) (k : Rows M m) : Rows (L ++ M) (n + m) := ⟨by rw [List.length_append, h.1, k.1], fun p hp => (List.mem_append.mp hp).elim (h.2 p) (k.2 p)⟩
theorem Rows.one {g : AV} {w : Str} (h : BadG g w) : Rows [(g, w)] 1 := ⟨rfl, fun p m => by rw [List.mem_singleton] at m; rw [m]; exact h⟩
theorem Rows.two {g g2 : AV} {w w2 : Str} (h : BadG g w) (k : BadG g2 w2) : Rows [(g, w), (g2, w2)] 2 := ⟨rfl, fun p m => by
  rcases List.mem_cons.mp m with rfl | m
  · exact h
  · rw [List.mem_singleton] at m; rw [m]; exact k⟩
theorem madeLs_ref {A : AHp} {p : Addr} {xs : List AV} (h : A p = some (.lst xs)) : madeLs A (.ref p) = some xs := by simp only [madeLs, h]
theorem lc_rows {keep : AHp → Prop} {g : TGa} {tt : TTa} {te : TEa} {env : AEnv} (f : AV → AV × Str) {ys : List AV} {A : AHp} {Q : AV → AHp → Prop} (hlen : ys.length ≤ sizeLine) (hk : ∀ p o, A p = none → keep (updA A p o)) (hf : ∀ y ∈ ys, BadG (f y).1 (f y).2)
    (step : ∀ y ∈ ys, ∀ B : AHp, SubA A B → ∀ (T : AV → AHp → Prop) (F : AHp → Prop), T (encW (f y)) B → g y env B fun e2 A2 => tt e2 A2 fun b A3 => if b = true then te e2 A3 T else F A3)
    (q : ∀ L, Rows L ys.length → Q (.fl (L.map encW)) A) : lcT keep g tt te env ys A Q :=
  lc_id (fun y => encW (f y)) hlen hk step (by
    have := q (ys.map f) ⟨List.length_map .., fun p m => by
      obtain ⟨y, hy, rfl⟩ := List.mem_map.mp m
      exact hf y hy⟩
    rw [List.map_map] at this
    exact this)
theorem addL_rows {A : AHp} {Q : AV → AHp → Prop} {L : List (AV × Str)} (M : List (AV × Str)) {n m : Nat} {xs ys : List AV} (RL : Rows L n) (RM : Rows M m) (e1 : xs = L.map encW) (e2 : ys = M.map encW) (h : n + m ≤ 1000) (q : ∀ N, Rows N (n + m) → Q (.fl (N.map encW)) A) : addL (.fl xs) (.fl ys) A Q := by
  subst e1 e2
  refine ⟨sz8 (by rw [List.length_map, List.length_map, RL.1, RM.1]; exact h), ?_⟩
  rw [← List.map_append]; exact q _ (RL.app RM)
theorem addL_ref {A : AHp} {Q : AV → AHp → Prop} {p : Addr} {L : List (AV × Str)} (M : List (AV × Str)) {n m : Nat} {ys : List AV} (RL : Rows L n) (RM : Rows M m) (e1 : A p = some (.lst (L.map encW))) (e2 : ys = M.map encW) (h : n + m ≤ 1000) (q : ∀ N, Rows N (n + m) → Q (.fl (N.map encW)) A) : addL (.ref p) (.fl ys) A Q := by
  subst e2
  unfold addL
  rw [madeLs_ref e1]
  refine ⟨sz8 (by rw [List.length_map, List.length_map, RL.1, RM.1]; exact h), ?_⟩
  rw [← List.map_append]; exact q _ (RL.app RM)
theorem addM_rows {A : AHp} {Q : AV → AHp → Prop} {L : List (AV × Str)} (M : List (AV × Str)) {n m : Nat} {xs ys : List AV} (RL : Rows L n) (RM : Rows M m) (e1 : xs = L.map encW) (e2 : ys = M.map encW) (h : n + m ≤ 1000) (q : ∀ N, Rows N (n + m) → ∀ p, A p = none → Q (.ref p) (updA A p (.lst (N.map encW)))) : addM (.fl xs) (.fl ys) A Q := by
  subst e1 e2
  refine ⟨sz8 (by rw [List.length_map, List.length_map, RL.1, RM.1]; exact h), ?_⟩
  rw [← List.map_append]; exact q _ (RL.app RM)
theorem line_neg {r : RL} (h : r.st < 0) : lineA (encR r) = false := by
  have e : lineA (encR r) = (true && (nameB r.o && (nameB r.t && (aresA 0 9 (.tup (r.gs.map .int)) && (aresA 0 9 (.tup (r.ts.map .int)) && (decide (0 ≤ r.st) && decide (r.st ≤ 99999))))))) := rfl
  rw [e, decide_eq_false (by omega)]
  simp only [Bool.false_and, Bool.and_false]
def sp__law_wrongs : Spa := fun as A Q => ∃ (G : Gr), as = [encG G] ∧ GoodG G ∧ G.tasks.length ≤ 20 ∧ G.lines.length ≤ 40 ∧ ∀ rows : List (AV × Str), (∀ p ∈ rows, BadG p.1 p.2) → rows.length ≤ 200 → Q (.fl (rows.map encW)) A
def t__law_wrongs : TSa :=
  (sSeq (sAsg (vVar 0) (kTup 2 (kCons (hName 1) (kCons (hName 2) kNil))))
    (sSeq (sParV 3 4 (aCons (aOp ixV (aOp ixV (vVar 1) (aC (.int 0))) (aC (.int 0))) (aCons (aCB vLen (aCons (aOp ixV (aOp ixV (vVar 1) (aC (.int 0))) (aC (.int 1))) aNil)) aNil)))
    (sSeq (sParV 5 6 (aCons (aOp mulT (aTup (aCons (aC (.int 1)) aNil)) (vVar 4)) (aCons (aOp mulT (aTup (aCons (aC (.int 0)) aNil)) (vVar 4)) aNil)))
    (sSeq (sAsg (vLc (jSq (aTup (aCons (aC .non) (aCons (aC (.int 5)) (aCons (aC (.str "graph")) (aCons (aTup aNil) (aCons (aTup (aCons (vVar 1) aNil)) (aCons (aTup (aCons (vVar 1) (aCons (vVar 2) (aCons (aTup aNil) aNil)))) (aCons (aFl (aCons (vVar 1) (aCons (vVar 2) aNil))) (aCons (aTup (aCons (aTup aNil) (aCons (vVar 2) aNil))) (aCons (aTup (aCons (aCB vList (aCons (vVar 1) aNil)) (aCons (vVar 2) aNil))) (aCons (aTup (aCons (vVar 1) (aCons (aCB vList (aCons (vVar 2) aNil)) aNil))) aNil)))))))))))) (hName 9) aYes (aTup (aCons (vVar 9) (aCons (aC (.str "form")) aNil))) [9]) (hName 7))
    (sSeq (sAsg (aOp addL (vVar 7) (vLc (jSq (aCall sp__law_wrong_tasks (aCons (aC (.str "zz9")) aNil))) (hName 9) aYes (aTup (aCons (aTup (aCons (aOp addR (vVar 1) (aTup (aCons (vVar 9) aNil))) (aCons (aTup aNil) aNil))) (aCons (aC (.str "form")) aNil))) [9])) (hName 7))
    (sSeq (sAsg (aOp addL (vVar 7) (vLc (jSq (aCall sp__law_wrong_lines (aCons (vVar 3) aNil))) (hName 9) aYes (aTup (aCons (aTup (aCons (vVar 1) (aCons (aOp addR (vVar 2) (aTup (aCons (vVar 9) aNil))) aNil))) (aCons (aC (.str "form")) aNil))) [9])) (hName 7))
    (sSeq (sAsg (aOp addL (vVar 7) (aFl (aCons (aTup (aCons (aTup (aCons (aCB vTuple (aCons (vLc (jRg1 (aCons (aC (.int 25)) aNil)) (hName 10) aYes (aTup (aCons (aOp addR (aC (.str "t")) (aCB tStr (aCons (vVar 10) aNil))) (aCons (aTup (aCons (aC (.int 1)) aNil)) aNil))) [10]) aNil)) (aCons (aTup aNil) aNil))) (aCons (aC (.str "form")) aNil))) (aCons (aTup (aCons (aTup (aCons (vVar 1) (aCons (aOp mulT (aTup (aCons (aTup (aCons (vVar 3) (aCons (vVar 3) (aCons (vVar 5) (aCons (vVar 5) (aCons (aC (.int 0)) aNil)))))) aNil)) (aC (.int 61))) aNil))) (aCons (aC (.str "form")) aNil))) aNil)))) (hName 7))
    (sSeq (sAsg (aOp addM (vVar 7) (aFl (aCons (aTup (aCons (aTup (aCons (aOp addR (vVar 1) (aTup (aCons (aOp ixV (vVar 1) (aC (.int 0))) aNil))) (aCons (vVar 2) aNil))) (aCons (aC (.str "names")) aNil))) (aCons (aTup (aCons (aTup (aCons (aOp addR (aOp addR (aSl slV (vVar 1) aNoPart (vPart (aC (.int 1)))) (aTup (aCons (aTup (aCons (vVar 3) (aCons (aTup (aCons (aC (.int 1)) (aCons (aC (.int 2)) aNil))) aNil))) aNil))) (aSl slV (vVar 1) (vPart (aC (.int 1))) aNoPart)) (aCons (aTup aNil) aNil))) (aCons (aC (.str "names")) aNil))) aNil)))) (hName 7))
    (sSeq (sForV (jSq (aTup (aCons (aTup (aCons (vVar 3) (aCons (aC (.str "zz9")) (aCons (vVar 5) (aCons (aTup (aCons (aC (.int 1)) aNil)) (aCons (aC (.int 0)) aNil)))))) (aCons (aTup (aCons (aC (.str "zz9")) (aCons (vVar 3) (aCons (aTup (aCons (aC (.int 1)) aNil)) (aCons (vVar 5) (aCons (aC (.int 0)) aNil)))))) (aCons (aTup (aCons (vVar 3) (aCons (vVar 3) (aCons (aOp addR (vVar 5) (aTup (aCons (aC (.int 1)) aNil))) (aCons (vVar 5) (aCons (aC (.int 0)) aNil)))))) (aCons (aTup (aCons (vVar 3) (aCons (vVar 3) (aCons (vVar 5) (aCons (aOp addR (vVar 5) (aTup (aCons (aC (.int 0)) aNil))) (aCons (aC (.int 0)) aNil)))))) aNil)))))) (hName 8)
      (sDrop (vML nApp (vVar 7) (aCons (aTup (aCons (aTup (aCons (vVar 1) (aCons (aOp addR (vVar 2) (aTup (aCons (vVar 8) aNil))) aNil))) (aCons (aC (.str "lines")) aNil))) aNil))))
    (sSeq (sForV (jSq (aTup (aCons (aTup (aCons (vVar 3) (aCons (vVar 3) (aCons (vVar 6) (aCons (vVar 5) (aCons (aC (.int 9)) aNil)))))) (aCons (aTup (aCons (vVar 3) (aCons (vVar 3) (aCons (vVar 5) (aCons (vVar 6) (aCons (aC (.int 9)) aNil)))))) (aCons (aTup (aCons (vVar 3) (aCons (vVar 3) (aCons (aTup aNil) (aCons (vVar 5) (aCons (aC (.int 9)) aNil)))))) (aCons (aTup (aCons (vVar 3) (aCons (vVar 3) (aCons (vVar 5) (aCons (aTup aNil) (aCons (aC (.int 9)) aNil)))))) aNil)))))) (hName 8)
      (sDrop (vML nApp (vVar 7) (aCons (aTup (aCons (aTup (aCons (vVar 1) (aCons (aOp addR (aTup (aCons (vVar 8) aNil)) (vVar 2)) aNil))) (aCons (aC (.str "lines")) aNil))) aNil))))
    (sSeq (sAsg (aOp addL (vVar 7) (aFl (aCons (aTup (aCons (aTup (aCons (aOp addR (vVar 1) (aTup (aCons (aOp ixV (vVar 1) (aC (.int 0))) aNil))) (aCons (aTup (aCons (aTup (aCons (vVar 3) (aCons (aC (.str "zz9")) (aCons (vVar 5) (aCons (aTup (aCons (aC (.int 1)) aNil)) (aCons (aC (.int 0)) aNil)))))) aNil)) aNil))) (aCons (aC (.str "names")) aNil))) (aCons (aTup (aCons (aTup (aCons (aOp addR (vVar 1) (aTup (aCons (aOp ixV (vVar 1) (aC (.int 0))) aNil))) (aCons (aTup (aCons (aC .non) aNil)) aNil))) (aCons (aC (.str "form")) aNil))) aNil)))) (hName 7))
    (sRet (aOp addL (vVar 7) (aFl (aCons (aTup (aCons (aTup (aCons (vVar 1) (aCons (aTup (aCons (aTup (aCons (vVar 3) (aCons (aC (.str "zz9")) (aCons (vVar 5) (aCons (aTup (aCons (aC (.int 1)) aNil)) (aCons (aC (.int 0)) aNil)))))) (aCons (aTup (aCons (vVar 3) (aCons (vVar 3) (aCons (vVar 5) (aCons (vVar 5) (aCons (vNeg (aC (.int 1))) aNil)))))) aNil))) aNil))) (aCons (aC (.str "form")) aNil))) aNil)))))))))))))))
theorem rd__law_wrongs (as : List AV) (AH : AHp) (Q : AV → AHp → Prop) (h : sp__law_wrongs as AH Q) : t__law_wrongs { nx := fun _ A2 => Cv Q .non A2, rt := Cv Q } (startA ["graph", "tasks", "lines", "name", "count", "whole", "nought", "rows", "line", "one", "k"] as) AH := by
  obtain ⟨⟨T, Ls⟩, rfl, ok, h20, h40, q⟩ := h
  cases T with
  | nil => exact absurd ok.len.1 (by simp)
  | cons t0 r =>
  have t0ok := ok.ts t0 (List.mem_cons_self ..)
  have c24 := t0ok.len
  simp only at h20 h40
  have hr19 : r.length ≤ 19 := by simp at h20; omega
  have LA := map_toR (t0 :: r) Ls
  have smT : ∀ x ∈ (t0 :: r).map encT, smA x = true := fun x m => by
    obtain ⟨t, ht, rfl⟩ := List.mem_map.mp m
    have to := ok.ts t ht
    exact smA_task (by have := to.nm.len; omega) (by have := to.len; omega)
  have rls : ∀ x ∈ Ls.map (toR (t0 :: r)), RLOk x := fun x m => by
    obtain ⟨l, hl, rfl⟩ := List.mem_map.mp m
    exact toR_ok ok hl
  have smL : ∀ x ∈ Ls.map (encL (t0 :: r)), smA x = true := fun x m => by
    rw [LA] at m
    obtain ⟨l, hl, rfl⟩ := List.mem_map.mp m
    exact smA_line (rls l hl)
  have stT : smA (.tup ((t0 :: r).map encT)) = true := smA_mk (by rw [List.length_map]; omega) smT
  have stL : smA (.tup (Ls.map (encL (t0 :: r)))) = true := smA_mk (by rw [List.length_map]; omega) smL
  walk_at "dx"
  rw [gt_tup (v := encT t0) (by decide) rfl]
  walk_at "dx"
  rw [gt_tup (v := encT t0) (by decide) rfl]
  walk_at "dx"
  have cl : (t0.ds.map AV.int).length = t0.ds.length := List.length_map ..
  walk_at "szz"
  refine ⟨by simp, by omega, by omega, by simp, ?_⟩
  walk_at "szz"
  refine ⟨by simp, by omega, by omega, by simp, ?_⟩
  walk_at "dx"
  have fi : ∀ i : Int, (List.replicate (Int.toNat (((t0.ds.map AV.int).length : Nat) : Int)) [AV.int i]).flatten = (List.replicate t0.ds.length i).map AV.int := fun i => by rw [Int.toNat_natCast, cl, flat_ints]
  rw [fi 1, fi 0]
  repeat walk_at "szz"
  walk_at "dx"
  refine lc_rows (keep := free) (fun x => (x, "form")) (by simp; decide) keep_free (fun y hy => ?_) (fun y hy B _ TT F hT => ⟨by simp; decide, hT⟩) fun L1 R1 => ?_
  · simp only [List.mem_cons, List.not_mem_nil, or_false] at hy
    rcases hy with rfl | rfl | rfl | rfl | rfl | rfl | rfl | rfl | rfl | rfl
    · exact bad_form rfl rfl
    · exact bad_form rfl rfl
    · exact bad_form rfl rfl
    · exact bad_form rfl rfl
    · exact bad_form (smA_cons (by simp) (by simp only [smAs, stT, Bool.and_self])) rfl
    · exact bad_form (smA_cons (by simp) (by simp only [smAs, stT, stL, smA_nil, Bool.and_self])) rfl
    · exact bad_form (smA_fl.trans (smA_cons (by simp) (by simp only [smAs, stT, stL, Bool.and_self]))) rfl
    · exact bad_form (smA_cons (by simp) (by simp only [smAs, stL, smA_nil, Bool.and_self])) rfl
    · exact bad_form (smA_cons (by simp) (by simp only [smAs, smA_fl, stT, stL, Bool.and_self])) rfl
    · refine bad_form (smA_cons (by simp) (by simp only [smAs, smA_fl, stT, stL, Bool.and_self])) ?_
      · show (true && (tupA 1 24 (.tup ((t0 :: r).map encT)) && (false && _))) = false
        rw [Bool.false_and, Bool.and_false, Bool.and_false]
  walk_at "dx"
  refine ⟨"zz9", rfl, rfl, fun wt hwtl hwt => ?_⟩
  walk_at "dx"
  refine lc_rows (keep := free) (fun x => (gA ((t0 :: r).map encT ++ [x]) [], "form")) (sz8 (by omega)) keep_free (fun y hy => ?_) (fun y hy B _ TT F hT => ?_) fun L2 R2 => ?_
  · refine bad_form (sm_g2 (fun x m => ?_) (fun x m => by cases m) (by simp only [List.length_append, List.length_map, List.length_singleton]; omega) (by simp)) (form_ftask (x := y) (by simp) (hwt y hy).2)
    rcases List.mem_append.mp m with m | m
    · exact smT x m
    · rw [List.mem_singleton] at m
      rw [m]; exact (hwt y hy).1
  · walk_at "szz"; walk_at "szz"; walk_at "szz"; walk_at "szz"; walk_at "szz"
    exact hT
  replace R1 : Rows L1 10 := R1
  refine addL_rows L2 R1 R2 rfl rfl (by omega) fun L3 R3 => ?_
  walk_at "dx"
  refine ⟨t0.nm, rfl, name_good t0ok.nm, by have := t0ok.nm.len; omega, fun ww hwll hwl => ?_⟩
  walk_at "dx"
  refine lc_rows (keep := free) (fun x => (gA ((t0 :: r).map encT) (Ls.map (encL (t0 :: r)) ++ [x]), "form")) (sz8 (by omega)) keep_free (fun y hy => ?_) (fun y hy B _ TT F hT => ?_) fun L4 R4 => ?_
  · refine bad_form (sm_g2 smT (fun x m => ?_) (by rw [List.length_map]; omega) (by simp; omega)) (form_fline (x := y) (by simp) (hwl y hy).2)
    rcases List.mem_append.mp m with m | m
    · exact smL x m
    · rw [List.mem_singleton] at m
      rw [m]; exact (hwl y hy).1
  · walk_at "szz"; walk_at "szz"; walk_at "szz"; walk_at "szz"
    exact hT
  refine addL_rows L4 R3 R4 rfl rfl (by omega) fun L5 R5 => ?_
  walk_at "dx"
  refine ⟨by decide, by decide, ?_⟩
  refine lc_any (keep := free) (fun v => ∃ s : Str, v = .tup [.str s, .tup [.int 1]] ∧ s.length ≤ 100) (show (rng 0 25).length ≤ sizeLine from by rw [rng_len]; decide) keep_free (fun y hy B _ TT F hT => ?_) fun vs hvl hvs => ?_
  · obtain ⟨i, hi⟩ := List.mem_iff_getElem?.mp hy
    obtain ⟨hi2, rfl⟩ := rng_get hi
    have tl := PyProof.Rows.toString_length_le (v := 0 + (i : Int)) (by omega) (k := 2) (by decide) (by omega)
    have tl2 : (toString (0 + (i : Int)) : String) = toString (0 + (i : Int)) := rfl
    refine ⟨?_, ?_⟩
    · rcases Nat.eq_zero_or_pos (0 + (i : Int)).natAbs with e | e
      · rw [e]; decide
      · exact Nat.lt_of_lt_of_le ((Nat.log2_lt (by omega)).mpr (by omega : _ < 2 ^ 20)) (by decide)
    have t1 : ("t" : Str).length = 1 := by decide
    refine ⟨?_, ?_⟩
    · show ("t" : Str).length + (Str.ofString (toString (0 + (i : Int)))).length ≤ sizeLine
      exact sz8 (by omega)
    walk_at "szz"; walk_at "szz"
    refine hT _ ⟨_, rfl, ?_⟩
    show (("t" : Str) ++ Str.ofString (toString (0 + (i : Int)))).length ≤ 100
    rw [Str.length_append]; omega
  rw [rng_len] at hvl
  walk_at "dx"
  walk_at "szz"; walk_at "szz"; walk_at "szz"; walk_at "szz"; walk_at "szz"
  refine ⟨by simp, by decide, by decide, by simp, ?_⟩
  walk_at "szz"; walk_at "szz"
  walk_at "dx"
  rw [flat_rep]
  walk_at "szz"
  have lineOk : ∀ {o t : Str} {gs ts : List Int} {st : Int}, nameB o = true → nameB t = true → o.length ≤ 8 → t.length ≤ 8 → (∀ d ∈ gs, (0 : Int) ≤ d ∧ d ≤ 9) → (∀ d ∈ ts, (0 : Int) ≤ d ∧ d ≤ 9) → gs.length ≤ 25 → ts.length ≤ 25 → 0 ≤ st ∧ st ≤ 9 → RLOk ⟨o, t, gs, ts, st⟩ :=
    fun h1 h2 h3 h4 h5 h6 h7 h8 h9 => ⟨h1, h2, h5, h6, ⟨h9.1, Int.le_trans h9.2 (by decide)⟩, Nat.le_trans h3 (by decide), Nat.le_trans h4 (by decide), Nat.le_trans h7 (by decide), Nat.le_trans h8 (by decide)⟩
  have n0 := name_good t0ok.nm
  have n08 := t0ok.nm.len.2
  have w1 : ∀ d ∈ List.replicate t0.ds.length (1 : Int), (0 : Int) ≤ d ∧ d ≤ 9 := fun d m => by rw [List.eq_of_mem_replicate m]; decide
  have w0 : ∀ d ∈ List.replicate t0.ds.length (0 : Int), (0 : Int) ≤ d ∧ d ≤ 9 := fun d m => by rw [List.eq_of_mem_replicate m]; decide
  have wl : ∀ i : Int, (List.replicate t0.ds.length i).length ≤ 25 := fun i => by rw [List.length_replicate]; omega
  have lnW : RLOk ⟨t0.nm, t0.nm, List.replicate t0.ds.length 1, List.replicate t0.ds.length 1, 0⟩ := lineOk n0 n0 n08 n08 w1 w1 (wl 1) (wl 1) (by decide)
  have bad1 : BadG (gA vs []) "form" := bad_form (sm_g2 (fun x m => by
      obtain ⟨s, rfl, hs⟩ := hvs x m
      exact smA_cons (by simp) (by simp only [smAs, smA_str (Nat.le_trans hs (by decide)), smA_ints (ns := [1]) (by decide), show AV.tup [.int 1] = .tup ([(1 : Int)].map .int) from rfl, Bool.and_self])) (fun x m => by cases m) (by rw [hvl]; decide) (by decide)) (form_fmany (by rw [hvl]; decide))
  have bad2 : BadG (gA ((t0 :: r).map encT) (List.replicate (Int.toNat 61) (encR ⟨t0.nm, t0.nm, List.replicate t0.ds.length 1, List.replicate t0.ds.length 1, 0⟩))) "form" := bad_form (sm_g2 smT (fun x m => by
      rw [List.eq_of_mem_replicate m]; exact smA_line lnW) (by rw [List.length_map]; omega) (by rw [List.length_replicate]; decide)) (form_flong (by rw [List.length_replicate]; decide))
  refine addL_rows [(gA vs [], "form"), (gA ((t0 :: r).map encT) (List.replicate (Int.toNat 61) (encR ⟨t0.nm, t0.nm, List.replicate t0.ds.length 1, List.replicate t0.ds.length 1, 0⟩)), "form")] R5 (Rows.two bad1 bad2) rfl (by rfl) (by omega) fun L6 R6 => ?_
  walk_at "dx"
  rw [gt_tup (v := encT t0) (by decide) rfl]
  walk_at "szz"; walk_at "szz"; walk_at "szz"; walk_at "szz"
  walk_at "dx"
  rw [cut_to (by decide)]
  walk_at "szz"; walk_at "szz"; walk_at "szz"
  walk_at "szz"
  walk_at "dx"
  rw [cut_from (by decide)]
  walk_at "szz"; walk_at "szz"; walk_at "szz"; walk_at "szz"; walk_at "szz"
  have ltot : (Ls.map (toR (t0 :: r))).length = Ls.length := List.length_map ..
  have tsA : ∀ t ∈ (t0 :: r) ++ [t0], TaskOk t := fun t m => (List.mem_append.mp m).elim (ok.ts t) fun m => by rw [List.mem_singleton] at m; rw [m]; exact t0ok
  have tk12 : TaskOk ⟨t0.nm, [1, 2]⟩ := ⟨t0ok.nm, by simp, by simp⟩
  have tsB : ∀ t ∈ t0 :: ⟨t0.nm, [1, 2]⟩ :: r, TaskOk t := fun t m => by
    rcases List.mem_cons.mp m with rfl | m
    · exact t0ok
    rcases List.mem_cons.mp m with rfl | m
    · exact tk12
    · exact ok.ts t (List.mem_cons_of_mem _ m)
  have ndA : ¬ (((t0 :: r) ++ [t0]).map Task.nm).Nodup := fun h => by
    rw [List.map_append] at h
    exact (List.nodup_append.mp h).2.2 t0.nm (by simp) t0.nm (by simp) rfl
  have ndB : ¬ ((t0 :: ⟨t0.nm, [1, 2]⟩ :: r : List Task).map Task.nm).Nodup := fun h => by
    have := (List.nodup_cons.mp h).1
    exact this (by simp)
  have badA : ∀ {L : List RL} {ys : List AV}, (∀ r ∈ L, RLOk r) → L.length ≤ 60 → ys = L.map encR → BadG (gA ((t0 :: r).map encT ++ [encT t0]) ys) "names" := fun {L ys} h h60 e => by
    have := bad_names tsA h (by simp) (by simp; omega) h60 ndA
    rw [e]
    unfold encRG at this
    rw [List.map_append] at this
    exact this
  have badB : BadG (gA (encT t0 :: encT ⟨t0.nm, [1, 2]⟩ :: r.map encT) []) "names" := bad_names (L := []) tsB (fun r m => by cases m) (by simp) (by simp; omega) (by simp) ndB
  refine addM_rows [(gA ((t0 :: r).map encT ++ [encT t0]) (Ls.map (encL (t0 :: r))), "names"), (gA (encT t0 :: encT ⟨t0.nm, [1, 2]⟩ :: r.map encT) [], "names")] R6 (Rows.two (badA rls (by omega) LA) badB) rfl (by rfl) (by omega) fun L7 R7 p hp => ?_
  walk_at "dx"
  walk_at "szz"; walk_at "szz"; walk_at "szz"; walk_at "szz"; walk_at "szz"; walk_at "szz"; walk_at "szz"; walk_at "szz"; walk_at "szz"; walk_at "szz"; walk_at "szz"
  have tk0 : tkOf (t0 :: r) t0.nm = some t0 := by simp [tkOf]
  have tkz : tkOf (t0 :: r) "zz9" = none := by
    unfold tkOf
    rw [List.find?_eq_none]
    intro t m
    simpa using (ok.ts t m).nm.nz
  have zzB : nameB "zz9" = true := by decide +kernel
  have zz8 : ("zz9" : Str).length ≤ 8 := by decide
  have mapA : ∀ (l : List Int) (i : Int), l.map AV.int ++ [.int i] = (l ++ [i]).map .int := fun l i => by rw [List.map_append]; rfl
  have w1a : ∀ d ∈ List.replicate t0.ds.length (1 : Int) ++ [1], (0 : Int) ≤ d ∧ d ≤ 9 := fun d m => (List.mem_append.mp m).elim (w1 d) fun m => by rw [List.mem_singleton] at m; rw [m]; decide
  have w0a : ∀ d ∈ List.replicate t0.ds.length (1 : Int) ++ [0], (0 : Int) ≤ d ∧ d ≤ 9 := fun d m => (List.mem_append.mp m).elim (w1 d) fun m => by rw [List.mem_singleton] at m; rw [m]; decide
  have wla : ∀ i : Int, (List.replicate t0.ds.length (1 : Int) ++ [i]).length ≤ 25 := fun i => by rw [List.length_append, List.length_replicate]; simp; omega
  have one1 : ∀ d ∈ [(1 : Int)], (0 : Int) ≤ d ∧ d ≤ 9 := by simp
  have none1 : ∀ d ∈ ([] : List Int), (0 : Int) ≤ d ∧ d ≤ 9 := by simp
  have badL : ∀ {L : List RL} {ys : List AV} {l : RL}, (∀ r ∈ L, RLOk r) → L.length ≤ 60 → ys = L.map encR → l ∈ L → fitB (t0 :: r) l = false → BadG (gA ((t0 :: r).map encT) ys) "lines" := fun {L ys l} h h60 e m f => by
    have := bad_lines ok.ts h (by simp) (by simp; omega) h60 ok.nod m f
    rw [e]
    exact this
  refine rFor_inv (fun i e A => (∃ x, e = [some (encG ⟨t0 :: r, Ls⟩), some (.tup ((t0 :: r).map encT)), some (.tup (Ls.map (encL (t0 :: r)))), some (.str t0.nm), some (.int (((t0.ds.map AV.int).length : Nat) : Int)), some (.tup ((List.replicate t0.ds.length 1).map .int)), some (.tup ((List.replicate t0.ds.length 0).map .int)), some (.ref p), x, none, none]) ∧
    ∃ L : List (AV × Str), A = updA AH p (.lst (L.map encW)) ∧ Rows L (10 + wt.length + ww.length + 2 + 2 + i)) ⟨⟨_, rfl⟩, L7, rfl, R7⟩ ?_ ?_
  · rintro i x e A hx ⟨⟨y, rfl⟩, L, rfl, RQ⟩ N hN
    have hi : i < 4 := (List.getElem?_eq_some_iff.mp hx).1
    obtain ⟨l, rfl, lo, lf⟩ : ∃ l : RL, x = encR l ∧ RLOk l ∧ fitB (t0 :: r) l = false := by
      match i, hx with
      | 0, hx =>
        cases hx
        exact ⟨⟨t0.nm, "zz9", List.replicate t0.ds.length 1, [1], 0⟩, rfl, lineOk n0 zzB n08 zz8 w1 one1 (wl 1) (by simp) (by decide), by simp only [fitB, tk0, tkz]⟩
      | 1, hx =>
        cases hx
        exact ⟨⟨"zz9", t0.nm, [1], List.replicate t0.ds.length 1, 0⟩, rfl, lineOk zzB n0 zz8 n08 one1 w1 (by simp) (wl 1) (by decide), by simp only [fitB, tkz]⟩
      | 2, hx =>
        rw [mapA] at hx
        cases hx
        exact ⟨⟨t0.nm, t0.nm, List.replicate t0.ds.length 1 ++ [1], List.replicate t0.ds.length 1, 0⟩, rfl, lineOk n0 n0 n08 n08 w1a w1 (wla 1) (wl 1) (by decide), by simp [fitB, tk0]⟩
      | 3, hx =>
        rw [mapA, mapA] at hx
        cases hx
        exact ⟨⟨t0.nm, t0.nm, List.replicate t0.ds.length 1, List.replicate t0.ds.length 1 ++ [0], 0⟩, rfl, lineOk n0 n0 n08 n08 w1 w0a (wl 1) (wla 0) (by decide), by simp [fitB, tk0]⟩
      | n + 4, hx => omega
    walk_at "dx"
    rw [ls_ref updA_same]
    walk_at "dx"
    walk_at "szz"; walk_at "szz"; walk_at "szz"; walk_at "szz"
    walk_at "dx"
    have bx : BadG (gA ((t0 :: r).map encT) (Ls.map (encL (t0 :: r)) ++ [encR l])) "lines" := badL (L := Ls.map (toR (t0 :: r)) ++ [l]) (fun z m => (List.mem_append.mp m).elim (rls z) fun m => by rw [List.mem_singleton] at m; rw [m]; exact lo) (by simp; omega) (by rw [List.map_append, ← LA]; rfl) (by simp) lf
    refine nApp_lst updA_same (by rw [List.length_map, RQ.1]; exact Nat.lt_of_lt_of_le (by omega : _ < 1000) (by decide)) ⟨trivial, hN _ _ ⟨⟨_, rfl⟩, L ++ [(gA ((t0 :: r).map encT) (Ls.map (encL (t0 :: r)) ++ [encR l]), ("lines" : Str))], ?_, RQ.app (Rows.one bx)⟩⟩
    rw [updA_upd, List.map_append]; rfl
  rintro e A ⟨⟨y, rfl⟩, L8, rfl, R8⟩
  replace R8 : Rows L8 (10 + wt.length + ww.length + 2 + 2 + 4) := R8
  walk_at "dx"
  walk_at "szz"; walk_at "szz"; walk_at "szz"; walk_at "szz"; walk_at "szz"; walk_at "szz"; walk_at "szz"
  refine rFor_inv (fun i e A => (∃ x, e = [some (encG ⟨t0 :: r, Ls⟩), some (.tup ((t0 :: r).map encT)), some (.tup (Ls.map (encL (t0 :: r)))), some (.str t0.nm), some (.int (((t0.ds.map AV.int).length : Nat) : Int)), some (.tup ((List.replicate t0.ds.length 1).map .int)), some (.tup ((List.replicate t0.ds.length 0).map .int)), some (.ref p), x, none, none]) ∧
    ∃ L : List (AV × Str), A = updA AH p (.lst (L.map encW)) ∧ Rows L (10 + wt.length + ww.length + 2 + 2 + 4 + i)) ⟨⟨_, rfl⟩, L8, rfl, R8⟩ ?_ ?_
  · rintro i x e A hx ⟨⟨y, rfl⟩, L, rfl, RQ⟩ N hN
    have hi : i < 4 := (List.getElem?_eq_some_iff.mp hx).1
    obtain ⟨l, rfl, lo, lf⟩ : ∃ l : RL, x = encR l ∧ RLOk l ∧ fitB (t0 :: r) l = false := by
      match i, hx with
      | 0, hx =>
        cases hx
        exact ⟨⟨t0.nm, t0.nm, List.replicate t0.ds.length 0, List.replicate t0.ds.length 1, 9⟩, rfl, lineOk n0 n0 n08 n08 w0 w1 (wl 0) (wl 1) (by decide), by simp [fitB, tk0]⟩
      | 1, hx =>
        cases hx
        exact ⟨⟨t0.nm, t0.nm, List.replicate t0.ds.length 1, List.replicate t0.ds.length 0, 9⟩, rfl, lineOk n0 n0 n08 n08 w1 w0 (wl 1) (wl 0) (by decide), by simp [fitB, tk0]⟩
      | 2, hx =>
        cases hx
        exact ⟨⟨t0.nm, t0.nm, [], List.replicate t0.ds.length 1, 9⟩, rfl, lineOk n0 n0 n08 n08 none1 w1 (by simp) (wl 1) (by decide), by simp [fitB, tk0]⟩
      | 3, hx =>
        cases hx
        exact ⟨⟨t0.nm, t0.nm, List.replicate t0.ds.length 1, [], 9⟩, rfl, lineOk n0 n0 n08 n08 w1 none1 (wl 1) (by simp) (by decide), by simp [fitB, tk0]⟩
      | n + 4, hx => omega
    walk_at "dx"
    rw [ls_ref updA_same]
    walk_at "dx"
    walk_at "szz"; walk_at "szz"; walk_at "szz"; walk_at "szz"
    walk_at "dx"
    have bx : BadG (gA ((t0 :: r).map encT) ([encR l] ++ Ls.map (encL (t0 :: r)))) "lines" := badL (L := [l] ++ Ls.map (toR (t0 :: r))) (fun z m => (List.mem_append.mp m).elim (fun m => by rw [List.mem_singleton] at m; rw [m]; exact lo) (rls z)) (by simp; omega) (by rw [List.map_append, ← LA]; rfl) (by simp) lf
    refine nApp_lst updA_same (by rw [List.length_map, RQ.1]; exact Nat.lt_of_lt_of_le (by omega : _ < 1000) (by decide)) ⟨trivial, hN _ _ ⟨⟨_, rfl⟩, L ++ [(gA ((t0 :: r).map encT) ([encR l] ++ Ls.map (encL (t0 :: r))), ("lines" : Str))], ?_, RQ.app (Rows.one bx)⟩⟩
    rw [updA_upd, List.map_append]; rfl
  rintro e A ⟨⟨y, rfl⟩, L9, rfl, R9⟩
  replace R9 : Rows L9 (10 + wt.length + ww.length + 2 + 2 + 4 + 4) := R9
  walk_at "dx"
  rw [gt_tup (v := encT t0) (by decide) rfl]
  walk_at "szz"; walk_at "szz"
  walk_at "szz"; walk_at "szz"; walk_at "szz"; walk_at "szz"; walk_at "szz"
  walk_at "dx"
  rw [gt_tup (v := encT t0) (by decide) rfl]
  walk_at "szz"; walk_at "szz"; walk_at "szz"; walk_at "szz"; walk_at "szz"; walk_at "szz"
  have lnZ : RLOk ⟨t0.nm, "zz9", List.replicate t0.ds.length 1, [1], 0⟩ := lineOk n0 zzB n08 zz8 w1 one1 (wl 1) (by simp) (by decide)
  have badC : BadG (gA ((t0 :: r).map encT ++ [encT t0]) [.non]) "form" := bad_form (sm_g2 (fun x m => (List.mem_append.mp m).elim (smT x) fun m => by rw [List.mem_singleton] at m; rw [m]; exact smT _ (by simp)) (fun x m => by rw [List.mem_singleton] at m; rw [m]; simp only [smA]) (by simp; omega) (by simp)) (form_fline (x := .non) (by simp) rfl)
  refine addL_ref [(gA ((t0 :: r).map encT ++ [encT t0]) [encR ⟨t0.nm, "zz9", List.replicate t0.ds.length 1, [1], 0⟩], "names"), (gA ((t0 :: r).map encT ++ [encT t0]) [.non], "form")] R9 (Rows.two (badA (L := [⟨t0.nm, "zz9", List.replicate t0.ds.length 1, [1], 0⟩]) (fun z m => by rw [List.mem_singleton] at m; rw [m]; exact lnZ) (by simp) rfl) badC) updA_same (by rfl) (by omega) fun L10 R10 => ?_
  walk_at "dx"
  walk_at "szz"; walk_at "szz"; walk_at "szz"; walk_at "szz"; walk_at "szz"; walk_at "szz"; walk_at "szz"
  have smN : smA (encR ⟨t0.nm, t0.nm, List.replicate t0.ds.length 1, List.replicate t0.ds.length 1, -1⟩) = true := smA_cons (by simp) (by
    simp only [smAs, smA_str (Nat.le_trans n08 (by decide)), smA_ints (Nat.le_trans (wl 1) (by decide)), smA_int, Bool.and_self])
  have badD : BadG (gA ((t0 :: r).map encT) [encR ⟨t0.nm, "zz9", List.replicate t0.ds.length 1, [1], 0⟩, encR ⟨t0.nm, t0.nm, List.replicate t0.ds.length 1, List.replicate t0.ds.length 1, -1⟩]) "form" := bad_form (sm_g2 smT (fun x m => by
      rcases List.mem_cons.mp m with rfl | m
      · exact smA_line lnZ
      · rw [List.mem_singleton] at m; rw [m]; exact smN) (by rw [List.length_map]; omega) (by simp)) (form_fline (x := encR ⟨t0.nm, t0.nm, List.replicate t0.ds.length 1, List.replicate t0.ds.length 1, -1⟩) (by simp) (line_neg (show (-1 : Int) < 0 by decide)))
  refine addL_rows [(gA ((t0 :: r).map encT) [encR ⟨t0.nm, "zz9", List.replicate t0.ds.length 1, [1], 0⟩, encR ⟨t0.nm, t0.nm, List.replicate t0.ds.length 1, List.replicate t0.ds.length 1, -1⟩], "form")] R10 (Rows.one badD) rfl (by rfl) (by omega) fun L11 R11 => ?_
  exact Cv.drop (SubA.new hp) (q L11 R11.2 (by rw [R11.1]; omega))
end D

set_option Elab.async false
set_option linter.all false
set_option maxRecDepth 100000
set_option maxHeartbeats 4000000
namespace D
open PySem PySem.Spec L2
local macro_rules | `(tactic| walk_at "dx") => `(tactic| conv => whnf)
local macro_rules | `(tactic| walk_at "szz") => `(tactic| refine ⟨by first | (simp; done) | (simp; decide) | exact sz8 (by simp; omega), ?_⟩)
/-! ### a graph at the bounds -/
def kTx (i : Nat) : Str := Str.ofString (toString ((0 : Int) + (i : Nat)))
def eNm (i : Nat) : Str := ("t" : Str) ++ kTx i ++ cutS (cutS "abcdef" none (some (6 - ((kTx i).length : Nat) + 1))) none (some 5)
theorem name_conv {s : Str} (h : nameB s = true) (hz : s ≠ "zz9") : NameOk s := by
  unfold nameB at h
  simp only [Bool.and_eq_true, decide_eq_true_eq, List.all_eq_true] at h
  obtain ⟨h1, h8, hc, ha⟩ := h
  refine ⟨⟨h1, h8⟩, ?_, ha, hz⟩
  cases e : s.cps.toList[0]? with
  | none => rw [e] at hc; cases hc
  | some c =>
    rw [e] at hc
    exact ⟨c, rfl, by simpa using hc⟩
theorem eNm_good : ∀ i ∈ List.range 24, nameB (eNm i) = true ∧ eNm i ≠ "zz9" := by decide +kernel
theorem eNm_nodup : ((List.range 24).map eNm).Nodup := by decide +kernel
theorem kTx_len : ∀ i ∈ List.range 24, (kTx i).length ≤ 2 := by decide +kernel
def eT (i : Nat) : Task := ⟨eNm i, List.replicate (if i = 0 then 24 else 1) 99⟩
def eTs : List Task := (List.range 24).map eT
theorem eTs_get {i : Nat} (h : i < 24) : eTs[i]? = some (eT i) := by
  unfold eTs
  rw [List.getElem?_map, List.getElem?_eq_getElem (by rw [List.length_range]; exact h), List.getElem_range]; rfl
theorem eTs_ok : ∀ t ∈ eTs, TaskOk t := fun t m => by
  obtain ⟨i, hi, rfl⟩ := List.mem_map.mp m
  obtain ⟨h1, h2⟩ := eNm_good i hi
  refine ⟨name_conv h1 h2, ?_, fun d m => ?_⟩
  · show 1 ≤ (List.replicate _ (99 : Int)).length ∧ (List.replicate _ (99 : Int)).length ≤ 24
    rw [List.length_replicate]
    split <;> decide
  · rw [List.eq_of_mem_replicate m]; decide
theorem eTs_nod : (eTs.map Task.nm).Nodup := by
  unfold eTs
  rw [List.map_map]
  exact eNm_nodup
theorem sl_is {z : Str} {lo hi : Option Int} {A : AHp} {Q : AV → AHp → Prop} (h : z.length ≤ sizeLine) (q : Q (.str (cutS z lo hi)) A) : slVS (.str z) lo hi A Q := by unfold slVS; exact ⟨z, rfl, h, q⟩
theorem en_items : enumA ((List.range 24).map fun i => AV.str (eNm i)) = (List.range 24).map fun i : Nat => AV.tup [.int (i : Nat), .str (eNm i)] := rfl
def eL0 : Ln := ⟨0, 1, List.replicate 24 9, [9], 99999⟩
def eL1 : Ln := ⟨1, 1, [9], [1], 0⟩
def eL (v : Nat) (w : Int) : Ln := ⟨1 + v, 0, [1], List.replicate 23 0 ++ [9], w⟩
theorem eT_ds {i : Nat} (h : 1 ≤ i) : (eT i).ds.length = 1 := by
  show (List.replicate (if i = 0 then 24 else 1) (99 : Int)).length = 1
  rw [List.length_replicate, if_neg (by omega)]
theorem eL0_ok : LnOk eTs eL0 := ⟨⟨_, eTs_get (i := 0) (by decide), rfl⟩, ⟨_, eTs_get (i := 1) (by decide), rfl⟩, by decide, by decide, by decide, by decide, by decide⟩
theorem eL1_ok : LnOk eTs eL1 := ⟨⟨_, eTs_get (i := 1) (by decide), rfl⟩, ⟨_, eTs_get (i := 1) (by decide), rfl⟩, by decide, by decide, by decide, by decide, by decide⟩
theorem eL_ok {v : Nat} {w : Int} (h : v < 23) (h0 : 0 ≤ w) (h3 : w < 3) : LnOk eTs (eL v w) := ⟨⟨_, eTs_get (i := 1 + v) (by omega), (eT_ds (by omega)).symm⟩, ⟨_, eTs_get (i := 0) (by decide), rfl⟩, (by decide : ∀ d ∈ [(1 : Int)], (0 : Int) ≤ d ∧ d ≤ 9), (by decide : ∀ d ∈ List.replicate 23 (0 : Int) ++ [9], (0 : Int) ≤ d ∧ d ≤ 9), (by decide : (0 : Int) < [(1 : Int)].sum), (by decide : (0 : Int) < (List.replicate 23 (0 : Int) ++ [9]).sum), ⟨h0, by show w ≤ 99999; omega⟩⟩
theorem nm_e {i : Nat} (h : i < 24) : nmAt eTs i = eNm i := nmAt_of (eTs_get h)
theorem eN_get {i : Nat} (h : i < 24) : ((List.range 24).map fun i => AV.str (eNm i))[i]? = some (.str (eNm i)) := by
  rw [List.getElem?_map, List.getElem?_eq_getElem (by rw [List.length_range]; exact h), List.getElem_range]; rfl
def sp__law_edge : Spa := fun as A Q => ∃ (a : Addr) (n : Nat) (R : AHp), as = [.ref a] ∧ MH a n R A ∧ n < 2 ^ 25 ∧ ∀ G A', GoodG G → MH a (n + 1000) R A' → Q (encG G) A'
def t__law_edge : TSa :=
  (sSeq (sAsg (vLc (jRg1 (aCons (aC (.int 24)) aNil)) (hName 4) aYes (aOp addR (aOp addR (aC (.str "t")) (aCB tStr (aCons (vVar 4) aNil))) (aSl slVS (aSl slVS (aC (.str "abcdef")) aNoPart (vPart (aOp addR (aOp subR (aC (.int 6)) (aCB vLen (aCons (aCB tStr (aCons (vVar 4) aNil)) aNil))) (aC (.int 1))))) aNoPart (vPart (aC (.int 5))))) [4]) (hName 1))
    (sSeq (sAsg (aCB vTuple (aCons (vLc (jEnu (aCons (vVar 1) aNil)) (kTup 2 (kCons (hName 4) (kCons (hName 5) kNil))) aYes (aTup (aCons (vVar 5) (aCons (aOp mulT (aTup (aCons (aC (.int 99)) aNil)) (aIf (vTest (aOp eqW (vVar 4) (aC (.int 0)))) (aC (.int 24)) (aC (.int 1)))) aNil))) [4, 5]) aNil)) (hName 2))
    (sSeq (sAsg (aLst (aCons (aTup (aCons (aOp ixV (vVar 1) (aC (.int 0))) (aCons (aOp ixV (vVar 1) (aC (.int 1))) (aCons (aOp mulT (aTup (aCons (aC (.int 9)) aNil)) (aC (.int 24))) (aCons (aTup (aCons (aC (.int 9)) aNil)) (aCons (aC (.int 99999)) aNil)))))) (aCons (aTup (aCons (aOp ixV (vVar 1) (aC (.int 1))) (aCons (aOp ixV (vVar 1) (aC (.int 1))) (aCons (aTup (aCons (aC (.int 9)) aNil)) (aCons (aTup (aCons (aC (.int 1)) aNil)) (aCons (aC (.int 0)) aNil)))))) aNil))) (hName 3))
    (sSeq (sForV (jRg1 (aCons (aC (.int 58)) aNil)) (hName 4)
      (sDrop (vML nApp (vVar 3) (aCons (aTup (aCons (aOp ixV (vVar 1) (aOp addR (aC (.int 1)) (aCall sp__law_next (aCons (vVar 0) (aCons (aC (.int 23)) aNil))))) (aCons (aOp ixV (vVar 1) (aC (.int 0))) (aCons (aTup (aCons (aC (.int 1)) aNil)) (aCons (aOp addR (aOp mulT (aTup (aCons (aC (.int 0)) aNil)) (aC (.int 23))) (aTup (aCons (aC (.int 9)) aNil))) (aCons (aCall sp__law_next (aCons (vVar 0) (aCons (aC (.int 3)) aNil))) aNil)))))) aNil))))
    (sRet (aTup (aCons (vVar 2) (aCons (aCB vTuple (aCons (vVar 3) aNil)) aNil))))))))
theorem rd__law_edge (as : List AV) (AH : AHp) (Q : AV → AHp → Prop) (h : sp__law_edge as AH Q) : t__law_edge { nx := fun _ A2 => Cv Q .non A2, rt := Cv Q } (startA ["m", "names", "tasks", "lines", "k", "name"] as) AH := by
  obtain ⟨a, n, R, rfl, hM, hn, q⟩ := h
  walk_at "dx"
  refine ⟨by decide, by decide, ?_⟩
  refine lc_map (keep := free) (fun i : Nat => .int ((0 : Int) + (i : Nat))) (fun i => .str (eNm i)) (ys := List.range 24) (by rw [List.length_range]; decide) keep_free (fun i hi B _ T F hT => ?_) ?_
  · have i24 : i < 24 := List.mem_range.mp hi
    have kl := kTx_len i hi
    have lg : (0 + (i : Int)).natAbs.log2 < 1920 := by
      rcases Nat.eq_zero_or_pos (0 + (i : Int)).natAbs with e | e
      · rw [e]; decide
      · exact Nat.lt_of_lt_of_le ((Nat.log2_lt (by omega)).mpr (by omega : _ < 2 ^ 20)) (by decide)
    have t1 : ("t" : Str).length = 1 := by decide
    have a6 : ("abcdef" : Str).length = 6 := by decide
    refine ⟨lg, ?_⟩
    refine ⟨by show ("t" : Str).length + (kTx i).length ≤ sizeLine; exact sz8 (by omega), ?_⟩
    walk_at "dx"
    refine ⟨lg, ?_⟩
    walk_at "dx"
    rw [show lenA B (.str (Str.ofString (toString ((0 : Int) + (i : Nat))))) = some (kTx i).length by unfold lenA; simp only [if_pos (show (Str.ofString (toString ((0 : Int) + (i : Nat)))).length ≤ sizeLine from sz8 (show (kTx i).length ≤ 1000 by omega))]; rfl]
    walk_at "dx"
    refine sl_is (by rw [a6]; decide) ?_
    refine sl_is (Nat.le_trans (cutS_length _ _ _) (by rw [a6]; decide)) ?_
    have c1 := cutS_length (cutS "abcdef" none (some (6 - ((kTx i).length : Nat) + 1))) none (some 5)
    have c2 := cutS_length "abcdef" none (some (6 - (((kTx i).length : Nat) : Int) + 1))
    rw [a6] at c2
    refine ⟨?_, hT⟩
    show (("t" : Str) ++ kTx i).length + (cutS (cutS "abcdef" none (some (6 - ((kTx i).length : Nat) + 1))) none (some 5)).length ≤ sizeLine
    rw [Str.length_append, t1]
    exact sz8 (by omega)
  walk_at "dx"
  rw [en_items]
  refine lc_map (keep := free) (fun i : Nat => AV.tup [.int (i : Nat), .str (eNm i)]) (fun i => encT (eT i)) (ys := List.range 24) (by rw [List.length_range]; decide) keep_free (fun i hi B _ T F hT => ?_) ?_
  · walk_at "dx"
    walk_at "szz"
    by_cases e : i = 0
    · subst e
      walk_at "dx"
      refine ⟨by simp, by decide, by decide, by simp, ?_⟩
      walk_at "szz"
      exact hT
    · walk_at "dx"
      refine dF (by simp; omega) ?_
      walk_at "dx"
      refine ⟨by simp, by decide, by decide, by simp, ?_⟩
      walk_at "szz"
      have e1 : encT (eT i) = .tup [.str (eNm i), .tup (List.replicate (Int.toNat 1) [AV.int 99]).flatten] := by
        show AV.tup [.str (eNm i), .tup ((List.replicate (if i = 0 then 24 else 1) (99 : Int)).map .int)] = _
        rw [if_neg e]; rfl
      rw [e1] at hT
      exact hT
  walk_at "dx"
  walk_at "szz"
  refine ⟨by simp, by decide, by decide, by simp, ?_⟩
  walk_at "szz"; walk_at "szz"; walk_at "szz"; walk_at "szz"; walk_at "szz"
  refine ⟨by simp; decide, fun p hp => ?_⟩
  have hRp := hM.non hp
  walk_at "dx"
  refine ⟨by decide, by decide, ?_⟩
  refine rFor_inv (fun i e A => (∃ x, e = [some (.ref a), some (.fl ((List.range 24).map fun i => AV.str (eNm i))), some (.tup ((List.range 24).map fun i => encT (eT i))), some (.ref p), x, none]) ∧ ∃ L : List Ln, L.length = 2 + i ∧ (∀ l ∈ L, LnOk eTs l) ∧ MH a (n + 2 * i) (updA R p (.lst (L.map (encL eTs)))) A) ⟨⟨_, rfl⟩, [eL0, eL1], rfl, fun l m => by
    rcases List.mem_cons.mp m with rfl | m
    · exact eL0_ok
    · rw [List.mem_singleton] at m; rw [m]; exact eL1_ok, hM.new hp⟩ ?_ ?_
  · rintro i x e A hx ⟨⟨u, rfl⟩, L, hLl, hL, hA⟩ N hN
    obtain ⟨hi, rfl⟩ := rng_get hx
    walk_at "dx"
    rw [ls_ref (hA.get updA_same)]
    have i58 : i < 58 := hi
    refine ⟨a, _, _, 23, rfl, hA, by omega, by decide, by decide, fun v A2 v0 v1 hM2 => ?_⟩
    walk_at "dx"
    rw [gt_ls (v := .str (eNm (1 + v.toNat))) rfl (by omega) (by rw [show (1 + v).toNat = 1 + v.toNat by omega]; exact eN_get (by omega))]
    walk_at "dx"
    walk_at "szz"; walk_at "szz"
    refine ⟨by simp, by decide, by decide, by simp, ?_⟩
    walk_at "szz"; walk_at "szz"
    refine ⟨a, _, _, 3, rfl, hM2, by omega, by decide, by decide, fun w A3 w0 w1 hM3 => ?_⟩
    walk_at "szz"
    walk_at "dx"
    have ev : AV.tup [.str (eNm (1 + v.toNat)), .str (eNm 0), .tup [.int 1], .tup ((List.replicate (Int.toNat 23) [AV.int 0]).flatten ++ [.int 9]), .int w] = encL eTs (eL v.toNat w) := by
      show _ = AV.tup [.str (nmAt eTs (1 + v.toNat)), .str (nmAt eTs 0), _, _, _]
      rw [nm_e (by omega), nm_e (by decide)]; rfl
    refine nApp_lst (hM3.get updA_same) (by rw [List.length_map]; exact Nat.lt_of_lt_of_le (by omega : _ < 1000) (by decide)) ⟨trivial, hN _ _ ⟨⟨_, rfl⟩, L ++ [eL v.toNat w], by rw [List.length_append, hLl]; rfl, fun l m => (List.mem_append.mp m).elim (hL l) fun m => by rw [List.mem_singleton] at m; rw [m]; exact eL_ok (by omega) w0 w1, ?_⟩⟩
    rw [List.map_append]
    show MH a _ _ (updA A3 p (.lst (L.map (encL eTs) ++ [AV.tup [.str (eNm (1 + v.toNat)), .str (eNm 0), .tup [.int 1], .tup ((List.replicate (Int.toNat 23) [AV.int 0]).flatten ++ [.int 9]), .int w]])))
    rw [ev]
    exact (hM3.put2 (o := .lst (L.map (encL eTs) ++ [eL v.toNat w].map (encL eTs)))).mono (by omega)
  rintro e A ⟨⟨u, rfl⟩, L, hLl, hL, hA⟩
  rw [rng_len] at hLl hA
  walk_at "dx"
  rw [sqOf_ref (xs := L.map (encL eTs)) (hA.get updA_same)]
  walk_at "szz"
  have l60 : L.length = 60 := hLl
  have eT24 : (List.range 24).map (fun i => encT (eT i)) = eTs.map encT := by unfold eTs; rw [List.map_map]; rfl
  have h := q ⟨eTs, L⟩ A ⟨by show 1 ≤ eTs.length ∧ eTs.length ≤ 24; unfold eTs; rw [List.length_map, List.length_range]; decide, by show L.length ≤ 60; omega, eTs_ok, eTs_nod, hL⟩ ((hA.forget hRp).mono (by have : Int.toNat 58 = 58 := rfl; omega))
  unfold encG at h
  rw [← eT24] at h
  exact Cv.of h
end D

set_option Elab.async false
set_option linter.all false
set_option maxRecDepth 100000
set_option maxHeartbeats 4000000
namespace D
open PySem PySem.Spec L2
local macro_rules | `(tactic| walk_at "dx") => `(tactic| conv => whnf)
local macro_rules | `(tactic| walk_at "szz") => `(tactic| refine ⟨by first | (simp; done) | (simp; decide) | exact sz8 (by simp; omega), ?_⟩)
theorem MH.sub {a : Addr} {n : Nat} {R A : AHp} (h : MH a n R A) : SubA R A := by obtain ⟨b, c, l, t, h1, h2⟩ := h; exact h1.sub
theorem reps_ints {K : PySem.W.Frag} {H : Hp} {A : AHp} : ∀ ns : List Int, RepVs K H A (ns.map AV.int) (ns.map V.int)
  | [] => .nil
  | n :: r => .cons (.int n) (reps_ints r)
def sp_law : Spa := fun as A Q => ∃ ns : List Int, as = [.kl (ns.map .int)] ∧ ns.length ≤ 63 ∧ Q (.bl true) A
def t_law : TSa :=
  (sSeq (sAsg (aCall sp__law_begun (aCons (vVar 0) aNil)) (hName 1))
    (sSeq (sAsg (aCall sp__law_graph (aCons (vVar 1) (aCons (aOp addR (aC (.int 1)) (aCall sp__law_next (aCons (vVar 1) (aCons (aC (.int 5)) aNil)))) (aCons (aC (.int 3)) (aCons (aC (.int 3)) aNil))))) (hName 2))
    (sSeq (sForV (jSq (aTup (aCons (vVar 2) (aCons (aCall sp__law_edge (aCons (vVar 1) aNil)) (aCons (aCall sp__law_bent (aCons (vVar 1) (aCons (vVar 2) aNil))) aNil))))) (hName 3)
      (sSeq (sForV (jRg1 (aCons (aC (.int 10)) aNil)) (hName 4)
        (sIf (vTest (aOp (isNR true) (aCall sp__law_refused (aCons (vVar 4) (aCons (vVar 3) aNil))) (aC .non)))
          (sRet (aC (.bl false)))
          sNext))
      (sIf (aOrT (vTest (aOp (isNR true) (aCall sp_need_graph (aCons (vVar 3) aNil)) (aC .non))) (vTest (aOp neW (aCall sp_first_state (aCons (vVar 3) aNil)) (aCall sp__law_first (aCons (vVar 3) aNil)))))
        (sRet (aC (.bl false)))
        sNext)))
    (sSeq (sParV 5 6 (aCons (aCall sp__law_wrongs (aCons (vVar 2) aNil)) (aCons (aCall sp__law_next (aCons (vVar 1) (aCons (aC (.int 5)) aNil))) aNil)))
    (sSeq (sForV (jRg1 (aCons (aCB vLen (aCons (vVar 5) aNil)) aNil)) (hName 7)
      (sForV (jRg1 (aCons (aC (.int 10)) aNil)) (hName 4)
        (sIf (aAndT (aOrT (vTest (aOp eqW (vVar 4) (aC (.int 0)))) (vTest (aOp eqW (aOp modR (aCB tInt (aCons (aOp addR (aOp addR (vVar 4) (vVar 7)) (vVar 6)) aNil)) (aC (.int 5))) (aC (.int 0))))) (vTest (aOp neW (aCall sp__law_refused (aCons (vVar 4) (aCons (aOp ixV (aOp ixV (vVar 5) (vVar 7)) (aC (.int 0))) aNil))) (aOp ixV (aOp ixV (vVar 5) (vVar 7)) (aC (.int 1))))))
          (sRet (aC (.bl false)))
          sNext)))
    (sRet (aC (.bl true))))))))
abbrev n_law : List Str := ["script", "m", "graph", "good", "turn", "wrongs", "shift", "at"]
theorem rd_law (as : List AV) (AH : AHp) (Q : AV → AHp → Prop) (h : sp_law as AH Q) : t_law { nx := fun _ A2 => Cv Q .non A2, rt := Cv Q } (startA n_law as) AH := by
  obtain ⟨ns, rfl, hl, q⟩ := h
  refine ⟨ns, rfl, hl, fun a A1 hM1 => ?_⟩
  refine ⟨a, _, _, 5, rfl, hM1, by omega, by omega, by omega, fun v A2 v0 v1 hM2 => ?_⟩
  refine ⟨a, _, _, (1 + v).toNat, 3, 3, by rw [Int.toNat_of_nonneg (by omega)]; rfl, by omega, by omega, by omega, by omega, by omega, by omega, hM2, by omega, fun G laps A3 ok hG lp hM3 => ?_⟩
  have h24 := ok.len
  refine ⟨a, _, _, rfl, hM3, by omega, fun G2 A4 ok2 hM4 => ?_⟩
  refine ⟨a, _, _, G, rfl, ok, hM4, by omega, fun G3 A5 ok3 ht3 hl3 hM5 => ?_⟩
  walk_at "szz"
  refine rFor_inv (fun i e B => (∃ x3 x4, e = [some (.kl (ns.map .int)), some (.ref a), some (encG G), x3, x4, none, none, none]) ∧ B = A5) ⟨⟨_, _, rfl⟩, rfl⟩ ?_ ?_
  · rintro i x e B hx ⟨⟨x3, x4, rfl⟩, rfl⟩ N hN
    obtain ⟨GG, rfl, okk⟩ : ∃ GG, x = encG GG ∧ GoodG GG := by
      match i, hx with
      | 0, hx => cases hx; exact ⟨_, rfl, ok⟩
      | 1, hx => cases hx; exact ⟨_, rfl, ok2⟩
      | 2, hx => cases hx; exact ⟨_, rfl, ok3⟩
      | n + 3, hx => cases hx
    refine ⟨by decide, by decide, ?_⟩
    refine rFor_inv (fun j e C => (∃ x4, e = [some (.kl (ns.map .int)), some (.ref a), some (encG G), some (encG GG), x4, none, none, none]) ∧ C = B) ⟨⟨_, rfl⟩, rfl⟩ ?_ ?_
    · rintro j x e C hx ⟨⟨x4, rfl⟩, rfl⟩ N2 hN2
      obtain ⟨hj, rfl⟩ := rng_get hx
      have hj10 : j < 10 := hj
      refine ⟨_, _, rfl, by omega, by omega, .inl ⟨GG, rfl, okk, ?_⟩⟩
      refine ⟨rfl, ?_⟩
      walk_at "dx"
      exact ⟨trivial, hN2 _ _ ⟨⟨_, rfl⟩, rfl⟩⟩
    · rintro e C ⟨⟨x4, rfl⟩, rfl⟩
      refine ⟨GG, rfl, okk, ?_⟩
      refine ⟨rfl, ?_⟩
      walk_at "dx"
      refine ⟨GG, rfl, okk, ?_⟩
      refine ⟨GG, rfl, okk, ?_⟩
      refine ei_refl ((encS_ok _).mono (by omega)) ?_
      exact ⟨trivial, hN _ _ ⟨⟨_, _, rfl⟩, rfl⟩⟩
  rintro e B ⟨⟨x3, x4, rfl⟩, rfl⟩
  refine ⟨G, rfl, ok, by omega, lp.few, fun rows hrows hlen => ?_⟩
  refine ⟨a, _, _, 5, rfl, hM5, by omega, by omega, by omega, fun sh A6 s0 s1 hM6 => ?_⟩
  walk_at "dx"
  have lW : (rows.map encW).length = rows.length := List.length_map ..
  refine ⟨by omega, by omega, ?_⟩
  refine rFor_inv (fun i e B => (∃ x4 x7, e = [some (.kl (ns.map .int)), some (.ref a), some (encG G), x3, x4, some (.fl (rows.map encW)), some (.int sh), x7]) ∧ B = A6) ⟨⟨_, _, rfl⟩, rfl⟩ ?_ ?_
  · rintro i x e B hx ⟨⟨x4, x7, rfl⟩, rfl⟩ N hN
    obtain ⟨hi, rfl⟩ := rng_get hx
    rw [Int.toNat_natCast, lW] at hi
    obtain ⟨w, d, hw⟩ : ∃ w d, rows[i]? = some (w, d) := ⟨_, _, List.getElem?_eq_getElem hi⟩
    have hb := hrows _ (List.mem_of_getElem? hw)
    have gw : ∀ C : AHp, gtR0 C (.fl (rows.map encW)) (.int (0 + (i : Nat))) = some (encW (w, d)) := fun C => gt_ls rfl (by omega) (by rw [show (0 + (i : Int)).toNat = i by omega, List.getElem?_map, hw]; rfl)
    refine ⟨by decide, by decide, ?_⟩
    refine rFor_inv (fun j e C => (∃ x4, e = [some (.kl (ns.map .int)), some (.ref a), some (encG G), x3, x4, some (.fl (rows.map encW)), some (.int sh), some (.int (0 + (i : Nat)))]) ∧ C = B) ⟨⟨_, rfl⟩, rfl⟩ ?_ ?_
    · rintro j x e C hx ⟨⟨x4, rfl⟩, rfl⟩ N2 hN2
      obtain ⟨hj, rfl⟩ := rng_get hx
      have hj10 : j < 10 := hj
      walk_at "dx"
      by_cases hj0 : j = 0
      · refine dT (by simp; omega) ?_
        walk_at "dx"
        rw [gw]
        walk_at "dx"
        refine ⟨_, w, rfl, by omega, by omega, .inr ⟨d, hb, ?_⟩⟩
        walk_at "dx"
        rw [gw]
        walk_at "dx"
        refine dF (by simp) ?_
        exact ⟨trivial, hN2 _ _ ⟨⟨_, rfl⟩, rfl⟩⟩
      · refine dF (by simp; omega) ?_
        walk_at "dx"
        refine ⟨by decide, ?_⟩
        walk_at "dx"
        by_cases h5 : (0 + (j : Int) + (0 + (i : Int)) + sh) % 5 = 0
        · refine dT (by simp only [decide_eq_true_eq]; exact h5) ?_
          walk_at "dx"
          rw [gw]
          walk_at "dx"
          refine ⟨_, w, rfl, by omega, by omega, .inr ⟨d, hb, ?_⟩⟩
          walk_at "dx"
          rw [gw]
          walk_at "dx"
          refine dF (by simp) ?_
          exact ⟨trivial, hN2 _ _ ⟨⟨_, rfl⟩, rfl⟩⟩
        · refine dF (by simp only [decide_eq_true_eq]; exact h5) ?_
          exact ⟨trivial, hN2 _ _ ⟨⟨_, rfl⟩, rfl⟩⟩
    · rintro e C ⟨⟨x4, rfl⟩, rfl⟩
      exact ⟨trivial, hN _ _ ⟨⟨_, _, rfl⟩, rfl⟩⟩
  rintro e B ⟨⟨x4, x7, rfl⟩, rfl⟩
  exact Cv.drop hM6.sub q
theorem law_start {K : PySem.W.Frag} {H : Hp} {a : Addr} {ns : List Int} {Q : VK} {E : XK} (hl : ns.length ≤ 63) (hS : SqL K H a (ns.map V.int)) (q : ∀ H', Q (.bl true) H') : lfSp K sp_law [.ref a] H Q E := by
  refine ⟨[.kl (ns.map .int)], fun _ => none, fun v _ => v = .bl true, .cons (.kl ?_ (reps_ints ns)) .nil, fun a o e => (by cases e), ⟨ns, rfl, hl, rfl⟩, fun v A2 u H2 r g s e => ?_⟩
  · rcases hS with h | h
    · exact .inl ⟨h, rfl⟩
    · exact .inr h
  · subst e
    cases r
    exact q H2
end D

set_option Elab.async false
set_option linter.all false
set_option maxRecDepth 100000
set_option maxHeartbeats 4000000
namespace D
open PySem PySem.Spec L2
def topS (i : Nat) : Stmt := PySem.Challenge.pw_evenrates_k00_whole_graphs_looked_at.main.body.getD i (.Pass ⟨0, 0, 0, 0⟩)
structure Wd (mg : Str → Option Value) : Prop where
  n_bool : mg "bool" = none
  n_isinstance : mg "isinstance" = none
  n_int : mg "int" = none
  n_len : mg "len" = none
  n_tuple : mg "tuple" = none
  c_LETTERS : ∃ t, mg "LETTERS" = some (.str "abcdefghijklmnopqrstuvwxyz" t)
  n_str : mg "str" = none
  c_FIGURES : ∃ t, mg "FIGURES" = some (.str "0123456789" t)
  n_all : mg "all" = none
  n_sum : mg "sum" = none
  n_divmod : mg "divmod" = none
  n_list : mg "list" = none
  n_zip : mg "zip" = none
  n_enumerate : mg "enumerate" = none
  n_max : mg "max" = none
  n_range : mg "range" = none
  n_min : mg "min" = none
  c_MOST_PHASES : ∃ t, mg "MOST_PHASES" = some (.int 24 t)
  c_MOST_STOCK : ∃ t, mg "MOST_STOCK" = some (.int 99999 t)
  c_MOST_HELD : ∃ t, mg "MOST_HELD" = some (.int 999999 t)
  c_MOST_TASKS : ∃ t, mg "MOST_TASKS" = some (.int 24 t)
  c_MOST_LINES : ∃ t, mg "MOST_LINES" = some (.int 60 t)
  n_set : mg "set" = none
  c_MOST_FIRINGS : ∃ t, mg "MOST_FIRINGS" = some (.int 100000 t)
theorem len_is_whole : ∀ as A Q, sp_is_whole as A Q → as.length = 1 := fun as A Q h => by
  unfold sp_is_whole at h
  obtain ⟨_, rfl, _⟩ := h
  rfl
theorem leng_is_whole : ∀ as A Q, sg_is_whole as A Q → as.length = 1 := fun as A Q h => by
  unfold sg_is_whole at h
  obtain ⟨_, rfl, _⟩ := h
  rfl
theorem len_is_tuple_of : ∀ as A Q, sp_is_tuple_of as A Q → as.length = 3 := fun as A Q h => by
  unfold sp_is_tuple_of at h
  obtain ⟨_, _, _, rfl, _⟩ := h
  rfl
theorem leng_is_tuple_of : ∀ as A Q, sg_is_tuple_of as A Q → as.length = 3 := fun as A Q h => by
  unfold sg_is_tuple_of at h
  obtain ⟨_, _, _, rfl, _⟩ := h
  rfl
theorem len_is_name : ∀ as A Q, sp_is_name as A Q → as.length = 1 := fun as A Q h => by
  unfold sp_is_name at h
  obtain ⟨_, rfl, _⟩ := h
  rfl
theorem leng_is_name : ∀ as A Q, sg_is_name as A Q → as.length = 1 := fun as A Q h => by
  unfold sg_is_name at h
  obtain ⟨_, rfl, _⟩ := h
  rfl
theorem len_task_names : ∀ as A Q, sp_task_names as A Q → as.length = 1 := fun as A Q h => by
  unfold sp_task_names at h
  obtain ⟨_, _, rfl, _⟩ := h
  rfl
theorem len_fits : ∀ as A Q, sp_fits as A Q → as.length = 2 := fun as A Q h => by
  unfold sp_fits at h
  obtain ⟨_, _, rfl, _⟩ := h
  rfl
theorem leng_fits : ∀ as A Q, sg_fits as A Q → as.length = 2 := fun as A Q h => by
  unfold sg_fits at h
  obtain ⟨_, _, _, rfl, _⟩ := h
  rfl
theorem len_beginning : ∀ as A Q, sp_beginning as A Q → as.length = 1 := fun as A Q h => by
  unfold sp_beginning at h
  obtain ⟨_, rfl, _⟩ := h
  rfl
theorem len_turned : ∀ as A Q, sp_turned as A Q → as.length = 2 := fun as A Q h => by
  unfold sp_turned at h
  obtain ⟨_, _, rfl, _⟩ := h
  rfl
theorem len_counted : ∀ as A Q, sp_counted as A Q → as.length = 2 := fun as A Q h => by
  unfold sp_counted at h
  obtain ⟨_, _, rfl, _⟩ := h
  rfl
theorem len_least_count : ∀ as A Q, sp_least_count as A Q → as.length = 2 := fun as A Q h => by
  unfold sp_least_count at h
  obtain ⟨_, _, rfl, _⟩ := h
  rfl
theorem len_is_ready : ∀ as A Q, sp_is_ready as A Q → as.length = 4 := fun as A Q h => by
  unfold sp_is_ready at h
  obtain ⟨_, _, _, rfl, _⟩ := h
  rfl
theorem len_fire : ∀ as A Q, sp_fire as A Q → as.length = 6 := fun as A Q h => by
  unfold sp_fire at h
  obtain ⟨_, _, _, _, _, rfl, _⟩ := h
  rfl
theorem len__law_begun : ∀ as A Q, sp__law_begun as A Q → as.length = 1 := fun as A Q h => by
  unfold sp__law_begun at h
  obtain ⟨_, rfl, _⟩ := h
  rfl
theorem len__law_next : ∀ as A Q, sp__law_next as A Q → as.length = 2 := fun as A Q h => by
  unfold sp__law_next at h
  obtain ⟨_, _, _, _, rfl, _⟩ := h
  rfl
theorem len__law_gcd : ∀ as A Q, sp__law_gcd as A Q → as.length = 2 := fun as A Q h => by
  unfold sp__law_gcd at h
  obtain ⟨_, _, rfl, _⟩ := h
  rfl
theorem len__law_first : ∀ as A Q, sp__law_first as A Q → as.length = 1 := fun as A Q h => by
  unfold sp__law_first at h
  obtain ⟨_, rfl, _⟩ := h
  rfl
theorem len__law_wrong_tasks : ∀ as A Q, sp__law_wrong_tasks as A Q → as.length = 1 := fun as A Q h => by
  unfold sp__law_wrong_tasks at h
  obtain ⟨_, rfl, _⟩ := h
  rfl
theorem len__law_wrong_lines : ∀ as A Q, sp__law_wrong_lines as A Q → as.length = 1 := fun as A Q h => by
  unfold sp__law_wrong_lines at h
  obtain ⟨_, rfl, _⟩ := h
  rfl
theorem len_is_between : ∀ as A Q, sp_is_between as A Q → as.length = 3 := fun as A Q h => by
  unfold sp_is_between at h
  obtain ⟨_, _, _, rfl, _⟩ := h
  rfl
theorem leng_is_between : ∀ as A Q, sg_is_between as A Q → as.length = 3 := fun as A Q h => by
  unfold sg_is_between at h
  obtain ⟨_, _, _, rfl, _⟩ := h
  rfl
theorem len_task_number : ∀ as A Q, sp_task_number as A Q → as.length = 2 := fun as A Q h => by
  unfold sp_task_number at h
  obtain ⟨_, _, _, rfl, _⟩ := h
  rfl
theorem len_at_state : ∀ as A Q, sp_at_state as A Q → as.length = 2 := fun as A Q h => by
  unfold sp_at_state at h
  obtain ⟨_, _, rfl, _⟩ := h
  rfl
theorem len_leading_to : ∀ as A Q, sp_leading_to as A Q → as.length = 1 := fun as A Q h => by
  unfold sp_leading_to at h
  obtain ⟨_, rfl, _⟩ := h
  rfl
theorem len_leading_from : ∀ as A Q, sp_leading_from as A Q → as.length = 1 := fun as A Q h => by
  unfold sp_leading_from at h
  obtain ⟨_, rfl, _⟩ := h
  rfl
theorem len_need_told : ∀ as A Q, sp_need_told as A Q → as.length = 2 := fun as A Q h => by
  unfold sp_need_told at h
  obtain ⟨_, _, _, rfl, _⟩ := h
  rfl
theorem len__law_of : ∀ as A Q, sp__law_of as A Q → as.length = 2 := fun as A Q h => by
  unfold sp__law_of at h
  obtain ⟨_, _, _, _, _, rfl, _⟩ := h
  rfl
theorem len__law_names : ∀ as A Q, sp__law_names as A Q → as.length = 2 := fun as A Q h => by
  unfold sp__law_names at h
  obtain ⟨_, _, _, _, rfl, _⟩ := h
  rfl
theorem len__law_shared : ∀ as A Q, sp__law_shared as A Q → as.length = 3 := fun as A Q h => by
  unfold sp__law_shared at h
  obtain ⟨_, _, _, _, _, rfl, _⟩ := h
  rfl
theorem len__law_bent : ∀ as A Q, sp__law_bent as A Q → as.length = 2 := fun as A Q h => by
  unfold sp__law_bent at h
  obtain ⟨_, _, _, _, rfl, _⟩ := h
  rfl
theorem len__law_edge : ∀ as A Q, sp__law_edge as A Q → as.length = 1 := fun as A Q h => by
  unfold sp__law_edge at h
  obtain ⟨_, _, _, rfl, _⟩ := h
  rfl
theorem len__law_wrongs : ∀ as A Q, sp__law_wrongs as A Q → as.length = 1 := fun as A Q h => by
  unfold sp__law_wrongs at h
  obtain ⟨_, rfl, _⟩ := h
  rfl
theorem len_are_between : ∀ as A Q, sp_are_between as A Q → as.length = 3 := fun as A Q h => by
  unfold sp_are_between at h
  obtain ⟨_, _, _, rfl, _⟩ := h
  rfl
theorem leng_are_between : ∀ as A Q, sg_are_between as A Q → as.length = 3 := fun as A Q h => by
  unfold sg_are_between at h
  obtain ⟨_, _, _, rfl, _⟩ := h
  rfl
theorem len_need_number : ∀ as A Q, sp_need_number as A Q → as.length = 3 := fun as A Q h => by
  unfold sp_need_number at h
  obtain ⟨_, _, _, rfl, _⟩ := h
  rfl
theorem lnx_need_number : ∀ as A Q E, spb_need_number as A Q E → as.length = 3 := fun as A Q E h => by
  unfold spb_need_number at h
  obtain ⟨_, _, _, rfl, _⟩ := h
  rfl
theorem len__law_line : ∀ as A Q, sp__law_line as A Q → as.length = 5 := fun as A Q h => by
  unfold sp__law_line at h
  obtain ⟨_, _, _, _, _, _, _, _, rfl, _⟩ := h
  rfl
theorem len__law_tasks : ∀ as A Q, sp__law_tasks as A Q → as.length = 3 := fun as A Q h => by
  unfold sp__law_tasks at h
  obtain ⟨_, _, _, _, _, rfl, _⟩ := h
  rfl
theorem len_is_task : ∀ as A Q, sp_is_task as A Q → as.length = 1 := fun as A Q h => by
  unfold sp_is_task at h
  obtain ⟨_, rfl, _⟩ := h
  rfl
theorem leng_is_task : ∀ as A Q, sg_is_task as A Q → as.length = 1 := fun as A Q h => by
  unfold sg_is_task at h
  obtain ⟨_, rfl, _⟩ := h
  rfl
theorem len_is_line : ∀ as A Q, sp_is_line as A Q → as.length = 1 := fun as A Q h => by
  unfold sp_is_line at h
  obtain ⟨_, _, rfl, _⟩ := h
  rfl
theorem leng_is_line : ∀ as A Q, sg_is_line as A Q → as.length = 1 := fun as A Q h => by
  unfold sg_is_line at h
  obtain ⟨_, rfl, _⟩ := h
  rfl
theorem len_look_at_state : ∀ as A Q, sp_look_at_state as A Q → as.length = 2 := fun as A Q h => by
  unfold sp_look_at_state at h
  obtain ⟨_, _, rfl, _⟩ := h
  rfl
theorem lnx_look_at_state : ∀ as A Q E, spb_look_at_state as A Q E → as.length = 2 := fun as A Q E h => by
  unfold spb_look_at_state at h
  obtain ⟨_, _, rfl, _⟩ := h
  rfl
theorem len__law_graph : ∀ as A Q, sp__law_graph as A Q → as.length = 4 := fun as A Q h => by
  unfold sp__law_graph at h
  obtain ⟨_, _, _, _, _, _, rfl, _⟩ := h
  rfl
theorem len_has_graph_form : ∀ as A Q, sp_has_graph_form as A Q → as.length = 1 := fun as A Q h => by
  unfold sp_has_graph_form at h
  obtain ⟨_, rfl, _⟩ := h
  rfl
theorem leng_has_graph_form : ∀ as A Q, sg_has_graph_form as A Q → as.length = 1 := fun as A Q h => by
  unfold sg_has_graph_form at h
  obtain ⟨_, rfl, _⟩ := h
  rfl
theorem len_look_at_graph : ∀ as A Q, sp_look_at_graph as A Q → as.length = 1 := fun as A Q h => by
  unfold sp_look_at_graph at h
  obtain ⟨_, rfl, _⟩ := h
  rfl
theorem lnx_look_at_graph : ∀ as A Q E, spb_look_at_graph as A Q E → as.length = 1 := fun as A Q E h => by
  unfold spb_look_at_graph at h
  obtain ⟨_, _, rfl, _⟩ := h
  rfl
theorem lenn_tuple_text : ∀ n as A Q, spn_tuple_text n as A Q → as.length = 1 := fun n as A Q h => by
  unfold spn_tuple_text at h
  obtain ⟨_, _, rfl, _⟩ := h
  rfl
theorem len_need_graph : ∀ as A Q, sp_need_graph as A Q → as.length = 1 := fun as A Q h => by
  unfold sp_need_graph at h
  obtain ⟨_, rfl, _⟩ := h
  rfl
theorem lnx_need_graph : ∀ as A Q E, spb_need_graph as A Q E → as.length = 1 := fun as A Q E h => by
  unfold spb_need_graph at h
  obtain ⟨_, rfl, _⟩ := h
  rfl
theorem len_first_state : ∀ as A Q, sp_first_state as A Q → as.length = 1 := fun as A Q h => by
  unfold sp_first_state at h
  obtain ⟨_, rfl, _⟩ := h
  rfl
theorem lnx_first_state : ∀ as A Q E, spb_first_state as A Q E → as.length = 1 := fun as A Q E h => by
  unfold spb_first_state at h
  obtain ⟨_, rfl, _⟩ := h
  rfl
theorem len_need_state : ∀ as A Q, sp_need_state as A Q → as.length = 2 := fun as A Q h => by
  unfold sp_need_state at h
  obtain ⟨_, _, rfl, _⟩ := h
  rfl
theorem lnx_need_state : ∀ as A Q E, spb_need_state as A Q E → as.length = 2 := fun as A Q E h => by
  unfold spb_need_state at h
  obtain ⟨_, _, rfl, _⟩ := h
  rfl
theorem len_can_fire : ∀ as A Q, sp_can_fire as A Q → as.length = 2 := fun as A Q h => by
  unfold sp_can_fire at h
  obtain ⟨_, _, rfl, _⟩ := h
  rfl
theorem lnx_can_fire : ∀ as A Q E, spb_can_fire as A Q E → as.length = 2 := fun as A Q E h => by
  unfold spb_can_fire at h
  obtain ⟨_, _, rfl, _⟩ := h
  rfl
theorem len_fired : ∀ as A Q, sp_fired as A Q → as.length = 3 := fun as A Q h => by
  unfold sp_fired at h
  obtain ⟨_, _, _, rfl, _⟩ := h
  rfl
theorem lnx_fired : ∀ as A Q E, spb_fired as A Q E → as.length = 3 := fun as A Q E h => by
  unfold spb_fired at h
  obtain ⟨_, _, _, rfl, _⟩ := h
  rfl
theorem len_look_at_line : ∀ as A Q, sp_look_at_line as A Q → as.length = 2 := fun as A Q h => by
  unfold sp_look_at_line at h
  obtain ⟨_, _, rfl, _⟩ := h
  rfl
theorem lnx_look_at_line : ∀ as A Q E, spb_look_at_line as A Q E → as.length = 2 := fun as A Q E h => by
  unfold spb_look_at_line at h
  obtain ⟨_, _, rfl, _⟩ := h
  rfl
theorem len_graph_text : ∀ as A Q, sp_graph_text as A Q → as.length = 1 := fun as A Q h => by
  unfold sp_graph_text at h
  obtain ⟨_, rfl, _⟩ := h
  rfl
theorem lnx_graph_text : ∀ as A Q E, spb_graph_text as A Q E → as.length = 1 := fun as A Q E h => by
  unfold spb_graph_text at h
  obtain ⟨_, rfl, _⟩ := h
  rfl
theorem len_graph_at : ∀ as A Q, sp_graph_at as A Q → as.length = 2 := fun as A Q h => by
  unfold sp_graph_at at h
  obtain ⟨_, _, rfl, _⟩ := h
  rfl
theorem lnx_graph_at : ∀ as A Q E, spb_graph_at as A Q E → as.length = 2 := fun as A Q E h => by
  unfold spb_graph_at at h
  obtain ⟨_, _, rfl, _⟩ := h
  rfl
theorem len_gave : ∀ as A Q, sp_gave as A Q → as.length = 3 := fun as A Q h => by
  unfold sp_gave at h
  obtain ⟨_, _, _, rfl, _⟩ := h
  rfl
theorem lnx_gave : ∀ as A Q E, spb_gave as A Q E → as.length = 3 := fun as A Q E h => by
  unfold spb_gave at h
  obtain ⟨_, _, _, rfl, _⟩ := h
  rfl
theorem len_took : ∀ as A Q, sp_took as A Q → as.length = 3 := fun as A Q h => by
  unfold sp_took at h
  obtain ⟨_, _, _, rfl, _⟩ := h
  rfl
theorem lnx_took : ∀ as A Q E, spb_took as A Q E → as.length = 3 := fun as A Q E h => by
  unfold spb_took at h
  obtain ⟨_, _, _, rfl, _⟩ := h
  rfl
theorem len_need : ∀ as A Q, sp_need as A Q → as.length = 3 := fun as A Q h => by
  unfold sp_need at h
  obtain ⟨_, _, _, rfl, _⟩ := h
  rfl
theorem lnx_need : ∀ as A Q E, spb_need as A Q E → as.length = 3 := fun as A Q E h => by
  unfold spb_need at h
  obtain ⟨_, _, _, rfl, _⟩ := h
  rfl
theorem len__law_called : ∀ as A Q, sp__law_called as A Q → as.length = 2 := fun as A Q h => by
  unfold sp__law_called at h
  obtain ⟨_, _, rfl, _⟩ := h
  rfl
theorem lnx__law_called : ∀ as A Q E, spb__law_called as A Q E → as.length = 2 := fun as A Q E h => by
  unfold spb__law_called at h
  obtain ⟨_, _, rfl, _⟩ := h
  rfl
theorem len__law_refused : ∀ as A Q, sp__law_refused as A Q → as.length = 2 := fun as A Q h => by
  unfold sp__law_refused at h
  obtain ⟨_, _, rfl, _⟩ := h
  rfl
theorem len_law : ∀ as A Q, sp_law as A Q → as.length = 1 := fun as A Q h => by
  unfold sp_law at h
  obtain ⟨_, rfl, _⟩ := h
  rfl
section
variable {P : Program} {w : World} {K : PySem.W.Frag} {mg : Str → Option Value} {base : Heap}
abbrev s_ini_BadName : Stmt := (clsBody (topS 2)).getD 0 (.Pass ⟨0, 0, 0, 0⟩)
theorem ini_BadName {C fI : Addr} {fd : FuncData} (B : BaseAt K mg "RateError") (T : OexC K C) (hno : PySem.W.findIn K (.ref C) "value" = some none) (F : Fun K "__init__" "BadName.__init__" s_ini_BadName fI fd) : FnOk P w K mg base (L2.CX P w) 1 fI fd ["self", "value"] (spIni C "value") := by
  obtain ⟨R, b1, b2, b3, b4⟩ := B.ex
  refine Fun.okX (N := ["self", "value"]) F ⟨rfl, rfl, rfl, by decide +kernel, rfl, by decide +kernel, by decide +kernel⟩ (fun vs H Q E ⟨a, v, e, _⟩ => by rw [e]; rfl) fun cdv A outer s H vs Q E hr ⟨a, v, e, ha, q⟩ => ⟨_, pss_cons (ps_expr (pe_oin (by rfl) b1 b2 b3 b4 (pa_cons (pv 0) pa_nil))) (pss_one (ps_ost (pv 0) (pv 1))), ?_⟩
  subst e
  exact ini_end T hno ha q rfl rfl fun H2 z => z
abbrev s_ini_BadNumber : Stmt := (clsBody (topS 3)).getD 0 (.Pass ⟨0, 0, 0, 0⟩)
theorem ini_BadNumber {C fI : Addr} {fd : FuncData} (B : BaseAt K mg "RateError") (T : OexC K C) (hno : PySem.W.findIn K (.ref C) "value" = some none) (F : Fun K "__init__" "BadNumber.__init__" s_ini_BadNumber fI fd) : FnOk P w K mg base (L2.CX P w) 1 fI fd ["self", "value"] (spIni C "value") := by
  obtain ⟨R, b1, b2, b3, b4⟩ := B.ex
  refine Fun.okX (N := ["self", "value"]) F ⟨rfl, rfl, rfl, by decide +kernel, rfl, by decide +kernel, by decide +kernel⟩ (fun vs H Q E ⟨a, v, e, _⟩ => by rw [e]; rfl) fun cdv A outer s H vs Q E hr ⟨a, v, e, ha, q⟩ => ⟨_, pss_cons (ps_expr (pe_oin (by rfl) b1 b2 b3 b4 (pa_cons (pv 0) pa_nil))) (pss_one (ps_ost (pv 0) (pv 1))), ?_⟩
  subst e
  exact ini_end T hno ha q rfl rfl fun H2 z => z
abbrev s_ini_BadFiring : Stmt := (clsBody (topS 4)).getD 0 (.Pass ⟨0, 0, 0, 0⟩)
theorem ini_BadFiring {C fI : Addr} {fd : FuncData} (B : BaseAt K mg "RateError") (T : OexC K C) (hno : PySem.W.findIn K (.ref C) "value" = some none) (F : Fun K "__init__" "BadFiring.__init__" s_ini_BadFiring fI fd) : FnOk P w K mg base (L2.CX P w) 1 fI fd ["self", "value"] (spIni C "value") := by
  obtain ⟨R, b1, b2, b3, b4⟩ := B.ex
  refine Fun.okX (N := ["self", "value"]) F ⟨rfl, rfl, rfl, by decide +kernel, rfl, by decide +kernel, by decide +kernel⟩ (fun vs H Q E ⟨a, v, e, _⟩ => by rw [e]; rfl) fun cdv A outer s H vs Q E hr ⟨a, v, e, ha, q⟩ => ⟨_, pss_cons (ps_expr (pe_oin (by rfl) b1 b2 b3 b4 (pa_cons (pv 0) pa_nil))) (pss_one (ps_ost (pv 0) (pv 1))), ?_⟩
  subst e
  exact ini_end T hno ha q rfl rfl fun H2 z => z
abbrev s_ini_BadGraph : Stmt := (clsBody (topS 5)).getD 0 (.Pass ⟨0, 0, 0, 0⟩)
theorem ini_BadGraph {C fI : Addr} {fd : FuncData} (B : BaseAt K mg "RateError") (T : OexC K C) (hno : PySem.W.findIn K (.ref C) "place" = some none) (F : Fun K "__init__" "BadGraph.__init__" s_ini_BadGraph fI fd) : FnOk P w K mg base (L2.CX P w) 1 fI fd ["self", "place"] (spIni C "place") := by
  obtain ⟨R, b1, b2, b3, b4⟩ := B.ex
  refine Fun.okX (N := ["self", "place"]) F ⟨rfl, rfl, rfl, by decide +kernel, rfl, by decide +kernel, by decide +kernel⟩ (fun vs H Q E ⟨a, v, e, _⟩ => by rw [e]; rfl) fun cdv A outer s H vs Q E hr ⟨a, v, e, ha, q⟩ => ⟨_, pss_cons (ps_expr (pe_oin (by rfl) b1 b2 b3 b4 (pa_cons (pv 0) pa_nil))) (pss_one (ps_ost (pv 0) (pv 1))), ?_⟩
  subst e
  exact ini_end T hno ha q rfl rfl fun H2 z => z
abbrev s_ini_BadState : Stmt := (clsBody (topS 6)).getD 0 (.Pass ⟨0, 0, 0, 0⟩)
theorem ini_BadState {C fI : Addr} {fd : FuncData} (B : BaseAt K mg "RateError") (T : OexC K C) (hno : PySem.W.findIn K (.ref C) "place" = some none) (F : Fun K "__init__" "BadState.__init__" s_ini_BadState fI fd) : FnOk P w K mg base (L2.CX P w) 1 fI fd ["self", "place"] (spIni C "place") := by
  obtain ⟨R, b1, b2, b3, b4⟩ := B.ex
  refine Fun.okX (N := ["self", "place"]) F ⟨rfl, rfl, rfl, by decide +kernel, rfl, by decide +kernel, by decide +kernel⟩ (fun vs H Q E ⟨a, v, e, _⟩ => by rw [e]; rfl) fun cdv A outer s H vs Q E hr ⟨a, v, e, ha, q⟩ => ⟨_, pss_cons (ps_expr (pe_oin (by rfl) b1 b2 b3 b4 (pa_cons (pv 0) pa_nil))) (pss_one (ps_ost (pv 0) (pv 1))), ?_⟩
  subst e
  exact ini_end T hno ha q rfl rfl fun H2 z => z
abbrev s_is_whole : Stmt := topS 10
abbrev N_is_whole : List Str := ["thing"]
abbrev P_is_whole : List Str := ["thing"]
theorem sc_is_whole : FnScope N_is_whole P_is_whole (defScope s_is_whole) := ⟨rfl, rfl, rfl, by decide +kernel, rfl, by decide +kernel, by decide +kernel⟩
theorem ok_is_whole (W : Wd mg) {f : Addr} {fd : FuncData} (hf : mg "is_whole" = some (.ref f)) (F : Fun K "is_whole" "is_whole" s_is_whole f fd) : Has P w K mg base 1 "is_whole" P_is_whole sp_is_whole :=
  ⟨f, fd, hf, F.kp, F.binds (ps := P_is_whole) (fun _ _ _ _ _ _ us hl => match us, hl with | [_], _ => rfl), fun_ok F sc_is_whole (fun as A Q h => len_is_whole as A Q h) fun cdv A outer s H E hr => ⟨t_is_whole, (dss_one (ds_ret (ve_and (de_callB w_isi (by rfl) W.n_isinstance (by decide +kernel) (da_cons (vv 0) (da_cons (de_ty (by rfl) W.n_int (by decide +kernel)) da_nil))) (de_one (ve_not (de_callB w_isi (by rfl) W.n_isinstance (by decide +kernel) (da_cons (vv 0) (da_cons (de_ty (by rfl) W.n_bool (by decide +kernel)) da_nil)))))))), fun as AH Q h => rd_is_whole as AH Q h⟩, fun_dat F⟩
theorem okg_is_whole (W : Wd mg) {f : Addr} {fd : FuncData} (hf : mg "is_whole" = some (.ref f)) (F : Fun K "is_whole" "is_whole" s_is_whole f fd) : Has P w K mg base 1 "is_whole" P_is_whole sg_is_whole :=
  ⟨f, fd, hf, F.kp, F.binds (ps := P_is_whole) (fun _ _ _ _ _ _ us hl => match us, hl with | [_], _ => rfl), fun_ok F sc_is_whole (fun as A Q h => leng_is_whole as A Q h) fun cdv A outer s H E hr => ⟨tg_is_whole, (dss_one (ds_ret (ve_and (de_callB w_isi (by rfl) W.n_isinstance (by decide +kernel) (da_cons (vv 0) (da_cons (de_ty (by rfl) W.n_int (by decide +kernel)) da_nil))) (de_one (ve_not (de_callB w_isi (by rfl) W.n_isinstance (by decide +kernel) (da_cons (vv 0) (da_cons (de_ty (by rfl) W.n_bool (by decide +kernel)) da_nil)))))))), fun as AH Q h => rg_is_whole as AH Q h⟩, fun_dat F⟩
abbrev s_is_tuple_of : Stmt := topS 12
abbrev N_is_tuple_of : List Str := ["thing", "least", "most"]
abbrev P_is_tuple_of : List Str := ["thing", "least", "most"]
theorem sc_is_tuple_of : FnScope N_is_tuple_of P_is_tuple_of (defScope s_is_tuple_of) := ⟨rfl, rfl, rfl, by decide +kernel, rfl, by decide +kernel, by decide +kernel⟩
theorem ok_is_tuple_of (W : Wd mg) {f : Addr} {fd : FuncData} (hf : mg "is_tuple_of" = some (.ref f)) (F : Fun K "is_tuple_of" "is_tuple_of" s_is_tuple_of f fd) : Has P w K mg base 1 "is_tuple_of" P_is_tuple_of sp_is_tuple_of :=
  ⟨f, fd, hf, F.kp, F.binds (ps := P_is_tuple_of) (fun _ _ _ _ _ _ us hl => match us, hl with | [_, _, _], _ => rfl), fun_ok F sc_is_tuple_of (fun as A Q h => len_is_tuple_of as A Q h) fun cdv A outer s H E hr => ⟨t_is_tuple_of, (dss_one (ds_ret (ve_and (de_callB w_isi (by rfl) W.n_isinstance (by decide +kernel) (da_cons (vv 0) (da_cons (de_ty (by rfl) W.n_tuple (by decide +kernel)) da_nil))) (de_one (de_chain c_le c_le (vv 1) (de_callB w_len (by rfl) W.n_len (by decide +kernel) (da_cons (vv 0) da_nil)) (vv 2)))))), fun as AH Q h => rd_is_tuple_of as AH Q h⟩, fun_dat F⟩
theorem okg_is_tuple_of (W : Wd mg) {f : Addr} {fd : FuncData} (hf : mg "is_tuple_of" = some (.ref f)) (F : Fun K "is_tuple_of" "is_tuple_of" s_is_tuple_of f fd) : Has P w K mg base 1 "is_tuple_of" P_is_tuple_of sg_is_tuple_of :=
  ⟨f, fd, hf, F.kp, F.binds (ps := P_is_tuple_of) (fun _ _ _ _ _ _ us hl => match us, hl with | [_, _, _], _ => rfl), fun_ok F sc_is_tuple_of (fun as A Q h => leng_is_tuple_of as A Q h) fun cdv A outer s H E hr => ⟨tg_is_tuple_of, (dss_one (ds_ret (ve_and (de_callB w_isi (by rfl) W.n_isinstance (by decide +kernel) (da_cons (vv 0) (da_cons (de_ty (by rfl) W.n_tuple (by decide +kernel)) da_nil))) (de_one (de_chain c_le c_le (vv 1) (de_callB w_len (by rfl) W.n_len (by decide +kernel) (da_cons (vv 0) da_nil)) (vv 2)))))), fun as AH Q h => rg_is_tuple_of as AH Q h⟩, fun_dat F⟩
abbrev s_is_name : Stmt := topS 14
abbrev N_is_name : List Str := ["thing", "sign"]
abbrev P_is_name : List Str := ["thing"]
theorem sc_is_name : FnScope N_is_name P_is_name (defScope s_is_name) := ⟨rfl, rfl, rfl, by decide +kernel, rfl, by decide +kernel, by decide +kernel⟩
theorem ok_is_name (W : Wd mg) {f : Addr} {fd : FuncData} (hf : mg "is_name" = some (.ref f)) (F : Fun K "is_name" "is_name" s_is_name f fd) : Has P w K mg base 1 "is_name" P_is_name sp_is_name :=
  ⟨f, fd, hf, F.kp, F.binds (ps := P_is_name) (fun _ _ _ _ _ _ us hl => match us, hl with | [_], _ => rfl), fun_ok F sc_is_name (fun as A Q h => len_is_name as A Q h) fun cdv A outer s H E hr => ⟨t_is_name, (dss_cons (ds_if (DW.dt (dw_or (dt_not (vt_tru (de_callB w_isi (by rfl) W.n_isinstance (by decide +kernel) (da_cons (vv 0) (da_cons (de_ty (by rfl) W.n_str (by decide +kernel)) da_nil))))) (dw_or (dt_not (vt_chain c_le c_le de_int (de_callB w_len (by rfl) W.n_len (by decide +kernel) (da_cons (vv 0) da_nil)) de_int)) (dw_or1 (vt_cmp (ci_notin (hu_of hr.toRoom)) (ve_ix (hu_of hr.toRoom) (vv 0) de_int (fun _ _ => rfl)) (de_globES (by rfl) W.c_LETTERS) rfl)))))
      (dss_one (ds_ret de_bl))
      dss_nil)
    (dss_one (ds_ret (de_callB (w_all rfl) (by rfl) W.n_all (by decide +kernel) (da_cons (lc_v (de_lc (own := [("sign", 1)]) rfl sc_is_name.nd (dj_sq (vv 0)) (blkOk_by (own := [("sign", 1)]) (N := N_is_name) (sc := defScope s_is_name) (by decide +kernel)) gl_name (wip_name (by decide)) mon_name (fun _ _ _ _ _ => (pg_name (i := 1) sc_is_name.nd rfl (.inl rfl))) (fun _ _ _ _ _ => dts_nil) (fun _ _ _ _ _ => (de_cmp (ci_in (hu_of hr.toRoom)) (vv 1) (de_op o_add (de_globES (by rfl) W.c_LETTERS) (de_globES (by rfl) W.c_FIGURES)) rfl)))) da_nil))))), fun as AH Q h => rd_is_name as AH Q h⟩, fun_dat F⟩
theorem okg_is_name (W : Wd mg) {f : Addr} {fd : FuncData} (hf : mg "is_name" = some (.ref f)) (F : Fun K "is_name" "is_name" s_is_name f fd) : Has P w K mg base 1 "is_name" P_is_name sg_is_name :=
  ⟨f, fd, hf, F.kp, F.binds (ps := P_is_name) (fun _ _ _ _ _ _ us hl => match us, hl with | [_], _ => rfl), fun_ok F sc_is_name (fun as A Q h => leng_is_name as A Q h) fun cdv A outer s H E hr => ⟨tg_is_name, (dss_cons (ds_if (DW.dt (dw_or (dt_not (vt_tru (de_callB w_isi (by rfl) W.n_isinstance (by decide +kernel) (da_cons (vv 0) (da_cons (de_ty (by rfl) W.n_str (by decide +kernel)) da_nil))))) (dw_or (dt_not (vt_chain c_le c_le de_int (de_callB w_len (by rfl) W.n_len (by decide +kernel) (da_cons (vv 0) da_nil)) de_int)) (dw_or1 (vt_cmp (ci_notin (hu_of hr.toRoom)) (ve_ix (hu_of hr.toRoom) (vv 0) de_int (fun _ _ => rfl)) (de_globES (by rfl) W.c_LETTERS) rfl)))))
      (dss_one (ds_ret de_bl))
      dss_nil)
    (dss_one (ds_ret (de_callB (w_all rfl) (by rfl) W.n_all (by decide +kernel) (da_cons (lc_v (de_lc (own := [("sign", 1)]) rfl sc_is_name.nd (dj_sq (vv 0)) (blkOk_by (own := [("sign", 1)]) (N := N_is_name) (sc := defScope s_is_name) (by decide +kernel)) gl_name (wip_name (by decide)) mon_name (fun _ _ _ _ _ => (pg_name (i := 1) sc_is_name.nd rfl (.inl rfl))) (fun _ _ _ _ _ => dts_nil) (fun _ _ _ _ _ => (de_cmp (ci_in (hu_of hr.toRoom)) (vv 1) (de_op o_add (de_globES (by rfl) W.c_LETTERS) (de_globES (by rfl) W.c_FIGURES)) rfl)))) da_nil))))), fun as AH Q h => rg_is_name as AH Q h⟩, fun_dat F⟩
abbrev s_task_names : Stmt := topS 16
abbrev N_task_names : List Str := ["graph", "task"]
abbrev P_task_names : List Str := ["graph"]
theorem sc_task_names : FnScope N_task_names P_task_names (defScope s_task_names) := ⟨rfl, rfl, rfl, by decide +kernel, rfl, by decide +kernel, by decide +kernel⟩
theorem ok_task_names (W : Wd mg) {f : Addr} {fd : FuncData} (hf : mg "task_names" = some (.ref f)) (F : Fun K "task_names" "task_names" s_task_names f fd) : Has P w K mg base 1 "task_names" P_task_names sp_task_names :=
  ⟨f, fd, hf, F.kp, F.binds (ps := P_task_names) (fun _ _ _ _ _ _ us hl => match us, hl with | [_], _ => rfl), fun_ok F sc_task_names (fun as A Q h => len_task_names as A Q h) fun cdv A outer s H E hr => ⟨t_task_names, (dss_one (ds_ret (lc_v (de_lc (own := [("task", 1)]) rfl sc_task_names.nd (dj_sq (ve_ix (hu_of hr.toRoom) (vv 0) de_int (fun _ _ => rfl))) (blkOk_by (own := [("task", 1)]) (N := N_task_names) (sc := defScope s_task_names) (by decide +kernel)) gl_name (wip_name (by decide)) mon_name (fun _ _ _ _ _ => (pg_name (i := 1) sc_task_names.nd rfl (.inl rfl))) (fun _ _ _ _ _ => dts_nil) (fun _ _ _ _ _ => (ve_ix (hu_of hr.toRoom) (vv 1) de_int (fun _ _ => rfl))))))), fun as AH Q h => rd_task_names as AH Q h⟩, fun_dat F⟩
abbrev s_fits : Stmt := topS 27
abbrev N_fits : List Str := ["graph", "line", "phases", "task"]
abbrev P_fits : List Str := ["graph", "line"]
theorem sc_fits : FnScope N_fits P_fits (defScope s_fits) := ⟨rfl, rfl, rfl, by decide +kernel, rfl, by decide +kernel, by decide +kernel⟩
theorem ok_fits (W : Wd mg) {f : Addr} {fd : FuncData} (hf : mg "fits" = some (.ref f)) (F : Fun K "fits" "fits" s_fits f fd) : Has P w K mg base 1 "fits" P_fits sp_fits :=
  ⟨f, fd, hf, F.kp, F.binds (ps := P_fits) (fun _ _ _ _ _ _ us hl => match us, hl with | [_, _], _ => rfl), fun_ok F sc_fits (fun as A Q h => len_fits as A Q h) fun cdv A outer s H E hr => ⟨t_fits, (dss_cons (dcs_v (ds_setDc (own := [("task", 3)]) (i := 2) rfl sc_fits.nd rfl rfl (sw_dict rfl rfl rfl (by decide +kernel)) (dj_sq (ve_ix (hu_of hr.toRoom) (vv 0) de_int (fun _ _ => rfl))) (blkOk_by (own := [("task", 3)]) (N := N_fits) (sc := defScope s_fits) (by decide +kernel)) gl_name (wip_name (by decide)) mon_name (fun _ _ _ _ _ => (pg_name (i := 3) sc_fits.nd rfl (.inl rfl))) (fun _ _ _ _ _ => dts_nil) (fun _ _ _ _ _ => (ve_ix (hu_of hr.toRoom) (vv 3) de_int (fun _ _ => rfl))) (fun _ _ _ _ _ => (de_callB w_len (by rfl) W.n_len (by decide +kernel) (da_cons (ve_ix (hu_of hr.toRoom) (vv 3) de_int (fun _ _ => rfl)) da_nil)))))
    (dss_cons (ds_if (DW.dt (dw_or (vt_cmp (ci_notin (hu_of hr.toRoom)) (ve_ix (hu_of hr.toRoom) (vv 1) de_int (fun _ _ => rfl)) (vv 2) rfl) (dw_or1 (vt_cmp (ci_notin (hu_of hr.toRoom)) (ve_ix (hu_of hr.toRoom) (vv 1) de_int (fun _ _ => rfl)) (vv 2) rfl))))
      (dss_one (ds_ret de_bl))
      dss_nil)
    (dss_cons (ds_if (DW.dt (dw_or (vt_cmp (ci_ne hr.units) (de_callB w_len (by rfl) W.n_len (by decide +kernel) (da_cons (ve_ix (hu_of hr.toRoom) (vv 1) de_int (fun _ _ => rfl)) da_nil)) (ve_ix (hu_of hr.toRoom) (vv 2) (ve_ix (hu_of hr.toRoom) (vv 1) de_int (fun _ _ => rfl)) (fun _ _ => rfl)) (nomark _)) (dw_or1 (vt_cmp (ci_ne hr.units) (de_callB w_len (by rfl) W.n_len (by decide +kernel) (da_cons (ve_ix (hu_of hr.toRoom) (vv 1) de_int (fun _ _ => rfl)) da_nil)) (ve_ix (hu_of hr.toRoom) (vv 2) (ve_ix (hu_of hr.toRoom) (vv 1) de_int (fun _ _ => rfl)) (fun _ _ => rfl)) (nomark _)))))
      (dss_one (ds_ret de_bl))
      dss_nil)
    (dss_one (ds_ret (ve_and (de_cmp c_gt (de_callB (w_sum rfl) (by rfl) W.n_sum (by decide +kernel) (da_cons (ve_ix (hu_of hr.toRoom) (vv 1) de_int (fun _ _ => rfl)) da_nil)) de_int (nomark _)) (de_one (de_cmp c_gt (de_callB (w_sum rfl) (by rfl) W.n_sum (by decide +kernel) (da_cons (ve_ix (hu_of hr.toRoom) (vv 1) de_int (fun _ _ => rfl)) da_nil)) de_int (nomark _))))))))), fun as AH Q h => rd_fits as AH Q h⟩, fun_dat F⟩
theorem okg_fits (W : Wd mg) {f : Addr} {fd : FuncData} (hf : mg "fits" = some (.ref f)) (F : Fun K "fits" "fits" s_fits f fd) : Has P w K mg base 1 "fits" P_fits sg_fits :=
  ⟨f, fd, hf, F.kp, F.binds (ps := P_fits) (fun _ _ _ _ _ _ us hl => match us, hl with | [_, _], _ => rfl), fun_ok F sc_fits (fun as A Q h => leng_fits as A Q h) fun cdv A outer s H E hr => ⟨tg_fits, (dss_cons (dcs_v (ds_setDc (own := [("task", 3)]) (i := 2) rfl sc_fits.nd rfl rfl (sw_dict rfl rfl rfl (by decide +kernel)) (dj_sq (ve_ix (hu_of hr.toRoom) (vv 0) de_int (fun _ _ => rfl))) (blkOk_by (own := [("task", 3)]) (N := N_fits) (sc := defScope s_fits) (by decide +kernel)) gl_name (wip_name (by decide)) mon_name (fun _ _ _ _ _ => (pg_name (i := 3) sc_fits.nd rfl (.inl rfl))) (fun _ _ _ _ _ => dts_nil) (fun _ _ _ _ _ => (ve_ix (hu_of hr.toRoom) (vv 3) de_int (fun _ _ => rfl))) (fun _ _ _ _ _ => (de_callB w_len (by rfl) W.n_len (by decide +kernel) (da_cons (ve_ix (hu_of hr.toRoom) (vv 3) de_int (fun _ _ => rfl)) da_nil)))))
    (dss_cons (ds_if (DW.dt (dw_or (vt_cmp (ci_notin (hu_of hr.toRoom)) (ve_ix (hu_of hr.toRoom) (vv 1) de_int (fun _ _ => rfl)) (vv 2) rfl) (dw_or1 (vt_cmp (ci_notin (hu_of hr.toRoom)) (ve_ix (hu_of hr.toRoom) (vv 1) de_int (fun _ _ => rfl)) (vv 2) rfl))))
      (dss_one (ds_ret de_bl))
      dss_nil)
    (dss_cons (ds_if (DW.dt (dw_or (vt_cmp (ci_ne hr.units) (de_callB w_len (by rfl) W.n_len (by decide +kernel) (da_cons (ve_ix (hu_of hr.toRoom) (vv 1) de_int (fun _ _ => rfl)) da_nil)) (ve_ix (hu_of hr.toRoom) (vv 2) (ve_ix (hu_of hr.toRoom) (vv 1) de_int (fun _ _ => rfl)) (fun _ _ => rfl)) (nomark _)) (dw_or1 (vt_cmp (ci_ne hr.units) (de_callB w_len (by rfl) W.n_len (by decide +kernel) (da_cons (ve_ix (hu_of hr.toRoom) (vv 1) de_int (fun _ _ => rfl)) da_nil)) (ve_ix (hu_of hr.toRoom) (vv 2) (ve_ix (hu_of hr.toRoom) (vv 1) de_int (fun _ _ => rfl)) (fun _ _ => rfl)) (nomark _)))))
      (dss_one (ds_ret de_bl))
      dss_nil)
    (dss_one (ds_ret (ve_and (de_cmp c_gt (de_callB (w_sum rfl) (by rfl) W.n_sum (by decide +kernel) (da_cons (ve_ix (hu_of hr.toRoom) (vv 1) de_int (fun _ _ => rfl)) da_nil)) de_int (nomark _)) (de_one (de_cmp c_gt (de_callB (w_sum rfl) (by rfl) W.n_sum (by decide +kernel) (da_cons (ve_ix (hu_of hr.toRoom) (vv 1) de_int (fun _ _ => rfl)) da_nil)) de_int (nomark _))))))))), fun as AH Q h => rg_fits as AH Q h⟩, fun_dat F⟩
abbrev s_beginning : Stmt := topS 30
abbrev N_beginning : List Str := ["graph", "line"]
abbrev P_beginning : List Str := ["graph"]
theorem sc_beginning : FnScope N_beginning P_beginning (defScope s_beginning) := ⟨rfl, rfl, rfl, by decide +kernel, rfl, by decide +kernel, by decide +kernel⟩
theorem ok_beginning (W : Wd mg) {f : Addr} {fd : FuncData} (hf : mg "beginning" = some (.ref f)) (F : Fun K "beginning" "beginning" s_beginning f fd) : Has P w K mg base 1 "beginning" P_beginning sp_beginning :=
  ⟨f, fd, hf, F.kp, F.binds (ps := P_beginning) (fun _ _ _ _ _ _ us hl => match us, hl with | [_], _ => rfl), fun_ok F sc_beginning (fun as A Q h => len_beginning as A Q h) fun cdv A outer s H E hr => ⟨t_beginning, (dss_one (ds_ret (de_tup (da_cons (de_op o_mulT (de_tup (da_cons de_int da_nil)) (de_callB w_len (by rfl) W.n_len (by decide +kernel) (da_cons (ve_ix (hu_of hr.toRoom) (vv 0) de_int (fun _ _ => rfl)) da_nil))) (da_cons (de_callT w_tuple (by rfl) W.n_tuple (by decide +kernel) (da_cons (lc_v (de_lc (own := [("line", 1)]) rfl sc_beginning.nd (dj_sq (ve_ix (hu_of hr.toRoom) (vv 0) de_int (fun _ _ => rfl))) (blkOk_by (own := [("line", 1)]) (N := N_beginning) (sc := defScope s_beginning) (by decide +kernel)) gl_name (wip_name (by decide)) mon_name (fun _ _ _ _ _ => (pg_name (i := 1) sc_beginning.nd rfl (.inl rfl))) (fun _ _ _ _ _ => dts_nil) (fun _ _ _ _ _ => (ve_ix (hu_of hr.toRoom) (vv 1) de_int (fun _ _ => rfl))))) da_nil)) da_nil))))), fun as AH Q h => rd_beginning as AH Q h⟩, fun_dat F⟩
abbrev s_turned : Stmt := topS 34
abbrev N_turned : List Str := ["numbers", "phase"]
abbrev P_turned : List Str := ["numbers", "phase"]
theorem sc_turned : FnScope N_turned P_turned (defScope s_turned) := ⟨rfl, rfl, rfl, by decide +kernel, rfl, by decide +kernel, by decide +kernel⟩
theorem ok_turned (W : Wd mg) {f : Addr} {fd : FuncData} (hf : mg "turned" = some (.ref f)) (F : Fun K "turned" "turned" s_turned f fd) : Has P w K mg base 1 "turned" P_turned sp_turned :=
  ⟨f, fd, hf, F.kp, F.binds (ps := P_turned) (fun _ _ _ _ _ _ us hl => match us, hl with | [_, _], _ => rfl), fun_ok F sc_turned (fun as A Q h => len_turned as A Q h) fun cdv A outer s H E hr => ⟨t_turned, (dss_one (ds_ret (de_op o_add (de_slice sv_all (vv 0) (vo_some (vv 1)) do_none) (de_slice sv_all (vv 0) do_none (vo_some (vv 1)))))), fun as AH Q h => rd_turned as AH Q h⟩, fun_dat F⟩
abbrev s_counted : Stmt := topS 41
abbrev N_counted : List Str := ["numbers", "count", "whole", "rest"]
abbrev P_counted : List Str := ["numbers", "count"]
theorem sc_counted : FnScope N_counted P_counted (defScope s_counted) := ⟨rfl, rfl, rfl, by decide +kernel, rfl, by decide +kernel, by decide +kernel⟩
theorem ok_counted (W : Wd mg) {f : Addr} {fd : FuncData} (hf : mg "counted" = some (.ref f)) (F : Fun K "counted" "counted" s_counted f fd) : Has P w K mg base 1 "counted" P_counted sp_counted :=
  ⟨f, fd, hf, F.kp, F.binds (ps := P_counted) (fun _ _ _ _ _ _ us hl => match us, hl with | [_, _], _ => rfl), fun_ok F sc_counted (fun as A Q h => len_counted as A Q h) fun cdv A outer s H E hr => ⟨t_counted, (dss_cons (ds_asg (de_callB b_divmod (by rfl) W.n_divmod (by decide +kernel) (da_cons (vv 1) (da_cons (de_callB w_len (by rfl) W.n_len (by decide +kernel) (da_cons (vv 0) da_nil)) da_nil))) (pg_tup rfl (pgs_cons (pg_name (i := 2) sc_counted.nd rfl (.inl rfl)) (pgs_cons (pg_name (i := 3) sc_counted.nd rfl (.inl rfl)) pgs_nil))) (gk_tup (gk_cons gl_name (gk_cons gl_name gk_nil))))
    (dss_one (ds_ret (de_op o_add (de_op o_mulT (vv 2) (de_callB (w_sum rfl) (by rfl) W.n_sum (by decide +kernel) (da_cons (vv 0) da_nil))) (de_callB (w_sum rfl) (by rfl) W.n_sum (by decide +kernel) (da_cons (de_slice sv_all (vv 0) do_none (vo_some (vv 3))) da_nil)))))), fun as AH Q h => rd_counted as AH Q h⟩, fun_dat F⟩
abbrev s_least_count : Stmt := topS 42
abbrev N_least_count : List Str := ["numbers", "wanted", "total", "whole", "count", "held"]
abbrev P_least_count : List Str := ["numbers", "wanted"]
theorem sc_least_count : FnScope N_least_count P_least_count (defScope s_least_count) := ⟨rfl, rfl, rfl, by decide +kernel, rfl, by decide +kernel, by decide +kernel⟩
theorem ok_least_count (W : Wd mg) {f : Addr} {fd : FuncData} (hf : mg "least_count" = some (.ref f)) (F : Fun K "least_count" "least_count" s_least_count f fd) : Has P w K mg base 1 "least_count" P_least_count sp_least_count :=
  ⟨f, fd, hf, F.kp, F.binds (ps := P_least_count) (fun _ _ _ _ _ _ us hl => match us, hl with | [_, _], _ => rfl), fun_ok F sc_least_count (fun as A Q h => len_least_count as A Q h) fun cdv A outer s H E hr => ⟨t_least_count, (dss_cons (ds_set (i := 2) sc_least_count.nd rfl (.inl rfl) (de_callB (w_sum rfl) (by rfl) W.n_sum (by decide +kernel) (da_cons (vv 0) da_nil)))
    (dss_cons (ds_set (i := 3) sc_least_count.nd rfl (.inl rfl) (de_op o_fdiv (de_op o_sub (vv 1) de_int) (vv 2)))
    (dss_cons (ds_set (i := 4) sc_least_count.nd rfl (.inl rfl) (de_op o_mulT (vv 3) (de_callB w_len (by rfl) W.n_len (by decide +kernel) (da_cons (vv 0) da_nil))))
    (dss_cons (ds_set (i := 5) sc_least_count.nd rfl (.inl rfl) (de_op o_mulT (vv 3) (vv 2)))
    (dss_cons (ds_while PassesOwn.never (vt_cmp c_lt (vv 5) (vv 1) (nomark _))
      (dss_cons (wd_aug (i := 5) sc_least_count.nd rfl (.inl rfl) (ve_ix (hu_of hr.toRoom) (vv 0) (de_op o_mod (vv 4) (de_callB w_len (by rfl) W.n_len (by decide +kernel) (da_cons (vv 0) da_nil))) (fun _ _ => rfl)) i_add)
      (dss_one (wd_aug (i := 4) sc_least_count.nd rfl (.inl rfl) de_int i_add))))
    (dss_one (ds_ret (vv 4)))))))), fun as AH Q h => rd_least_count as AH Q h⟩, fun_dat F⟩
abbrev s_is_ready : Stmt := topS 44
abbrev N_is_ready : List Str := ["graph", "state", "number", "lines", "phase", "at"]
abbrev P_is_ready : List Str := ["graph", "state", "number", "lines"]
theorem sc_is_ready : FnScope N_is_ready P_is_ready (defScope s_is_ready) := ⟨rfl, rfl, rfl, by decide +kernel, rfl, by decide +kernel, by decide +kernel⟩
theorem ok_is_ready (W : Wd mg) {f : Addr} {fd : FuncData} (hf : mg "is_ready" = some (.ref f)) (F : Fun K "is_ready" "is_ready" s_is_ready f fd) : Has P w K mg base 1 "is_ready" P_is_ready sp_is_ready :=
  ⟨f, fd, hf, F.kp, F.binds (ps := P_is_ready) (fun _ _ _ _ _ _ us hl => match us, hl with | [_, _, _, _], _ => rfl), fun_ok F sc_is_ready (fun as A Q h => len_is_ready as A Q h) fun cdv A outer s H E hr => ⟨t_is_ready, (dss_cons (ds_set (i := 4) sc_is_ready.nd rfl (.inr rfl) (ve_ix (hu_of hr.toRoom) (ve_ix (hu_of hr.toRoom) (vv 1) de_int (fun _ _ => rfl)) (vv 2) (fun _ _ => rfl)))
    (dss_one (ds_ret (de_callB (w_all rfl) (by rfl) W.n_all (by decide +kernel) (da_cons (lc_v (de_lc (own := [("at", 5)]) rfl sc_is_ready.nd (dj_sq (vv 3)) (blkOk_by (own := [("at", 5)]) (N := N_is_ready) (sc := defScope s_is_ready) (by decide +kernel)) gl_name (wip_name (by decide)) mon_name (fun _ _ _ _ _ => (pg_name (i := 5) sc_is_ready.nd rfl (.inl rfl))) (fun _ _ _ _ _ => dts_nil) (fun _ _ _ _ _ => (de_cmp c_ge (ve_ix (hu_of hr.toRoom) (ve_ix (hu_of hr.toRoom) (vv 1) de_int (fun _ _ => rfl)) (vv 5) (fun _ _ => rfl)) (ve_ix (hu_of hr.toRoom) (ve_ix (hu_of hr.toRoom) (ve_ix (hu_of hr.toRoom) (ve_ix (hu_of hr.toRoom) (vv 0) de_int (fun _ _ => rfl)) (vv 5) (fun _ _ => rfl)) de_int (fun _ _ => rfl)) (vv 4) (fun _ _ => rfl)) (nomark _))))) da_nil))))), fun as AH Q h => rd_is_ready as AH Q h⟩, fun_dat F⟩
abbrev s_fire : Stmt := topS 46
abbrev N_fire : List Str := ["graph", "phases", "stocks", "number", "coming", "going", "phase", "at"]
abbrev P_fire : List Str := ["graph", "phases", "stocks", "number", "coming", "going"]
theorem sc_fire : FnScope N_fire P_fire (defScope s_fire) := ⟨rfl, rfl, rfl, by decide +kernel, rfl, by decide +kernel, by decide +kernel⟩
theorem ok_fire (W : Wd mg) {f : Addr} {fd : FuncData} (hf : mg "fire" = some (.ref f)) (F : Fun K "fire" "fire" s_fire f fd) : Has P w K mg base 1 "fire" P_fire sp_fire :=
  ⟨f, fd, hf, F.kp, F.binds (ps := P_fire) (fun _ _ _ _ _ _ us hl => match us, hl with | [_, _, _, _, _, _], _ => rfl), fun_ok F sc_fire (fun as A Q h => len_fire as A Q h) fun cdv A outer s H E hr => ⟨t_fire, (dss_cons (ds_set (i := 6) sc_fire.nd rfl (.inl rfl) (ve_ix (hu_of hr.toRoom) (vv 1) (vv 3) (fun _ _ => rfl)))
    (dss_cons (wd_for PassesOwn.never rfl (dj_sq (vv 4)) (pg_name (i := 7) sc_fire.nd rfl (.inl rfl)) gl_name
      (dss_one (ds_if (vt_cmp c_lt (ve_ix (hu_of hr.toRoom) (vv 2) (vv 7) (fun _ _ => rfl)) (ve_ix (hu_of hr.toRoom) (ve_ix (hu_of hr.toRoom) (ve_ix (hu_of hr.toRoom) (ve_ix (hu_of hr.toRoom) (vv 0) de_int (fun _ _ => rfl)) (vv 7) (fun _ _ => rfl)) de_int (fun _ _ => rfl)) (vv 6) (fun _ _ => rfl)) (nomark _))
        (dss_one (ds_ret de_bl))
        dss_nil)))
    (dss_cons (wd_for PassesOwn.never rfl (dj_sq (vv 4)) (pg_name (i := 7) sc_fire.nd rfl (.inl rfl)) gl_name
      (dss_one (ds_augS (vv 2) (vv 7) (wi_get (hu_of hr.toRoom)) (ve_ix (hu_of hr.toRoom) (ve_ix (hu_of hr.toRoom) (ve_ix (hu_of hr.toRoom) (ve_ix (hu_of hr.toRoom) (vv 0) de_int (fun _ _ => rfl)) (vv 7) (fun _ _ => rfl)) de_int (fun _ _ => rfl)) (vv 6) (fun _ _ => rfl)) i_sub (wi_set (hu_of hr.toRoom)))))
    (dss_cons (wd_for PassesOwn.never rfl (dj_sq (vv 5)) (pg_name (i := 7) sc_fire.nd rfl (.inl rfl)) gl_name
      (dss_one (ds_augS (vv 2) (vv 7) (wi_get (hu_of hr.toRoom)) (ve_ix (hu_of hr.toRoom) (ve_ix (hu_of hr.toRoom) (ve_ix (hu_of hr.toRoom) (ve_ix (hu_of hr.toRoom) (vv 0) de_int (fun _ _ => rfl)) (vv 7) (fun _ _ => rfl)) de_int (fun _ _ => rfl)) (vv 6) (fun _ _ => rfl)) i_add (wi_set (hu_of hr.toRoom)))))
    (dss_cons (ds_asg (de_op o_mod (de_op o_add (vv 6) de_int) (de_callB w_len (by rfl) W.n_len (by decide +kernel) (da_cons (ve_ix (hu_of hr.toRoom) (ve_ix (hu_of hr.toRoom) (ve_ix (hu_of hr.toRoom) (vv 0) de_int (fun _ _ => rfl)) (vv 3) (fun _ _ => rfl)) de_int (fun _ _ => rfl)) da_nil))) (pg_sub (vv 1) (vv 3) (wi_set (hu_of hr.toRoom))) gl_sub)
    (dss_one (ds_ret de_bl))))))), fun as AH Q h => rd_fire as AH Q h⟩, fun_dat F⟩
abbrev s__law_begun : Stmt := topS 56
abbrev N__law_begun : List Str := ["script", "cell"]
abbrev P__law_begun : List Str := ["script"]
theorem sc__law_begun : FnScope N__law_begun P__law_begun (defScope s__law_begun) := ⟨rfl, rfl, rfl, by decide +kernel, rfl, by decide +kernel, by decide +kernel⟩
theorem ok__law_begun (W : Wd mg) {f : Addr} {fd : FuncData} (hf : mg "_law_begun" = some (.ref f)) (F : Fun K "_law_begun" "_law_begun" s__law_begun f fd) : Has P w K mg base 1 "_law_begun" P__law_begun sp__law_begun :=
  ⟨f, fd, hf, F.kp, F.binds (ps := P__law_begun) (fun _ _ _ _ _ _ us hl => match us, hl with | [_], _ => rfl), fun_ok F sc__law_begun (fun as A Q h => len__law_begun as A Q h) fun cdv A outer s H E hr => ⟨t__law_begun, (dss_one (ds_ret (de_disp (dps_cons de_str (de_callT w_list (by rfl) W.n_list (by decide +kernel) (da_cons (vv 0) da_nil)) (dps_cons de_str (lcM_v (de_lcM (own := [("cell", 1)]) rfl sc__law_begun.nd (dj_sq (vv 0)) (blkOk_by (own := [("cell", 1)]) (N := N__law_begun) (sc := defScope s__law_begun) (by decide +kernel)) gl_name (wip_name (by decide)) mon_name (fun _ _ _ _ _ => (pg_name (i := 1) sc__law_begun.nd rfl (.inl rfl))) (fun _ _ _ _ _ => (dts_one (vt_cmp c_ge (vv 1) (de_op o_pow de_int de_int) (nomark _)))) (fun _ _ _ _ _ => (vv 1)))) (dps_cons de_str de_int dps_nil))) rfl rfl (fun z => by cases z) (by decide)))), fun as AH Q h => rd__law_begun as AH Q h⟩, fun_dat F⟩
abbrev s__law_next : Stmt := topS 57
abbrev N__law_next : List Str := ["m", "many", "rest", "at", "cells", "cell", "blend"]
abbrev P__law_next : List Str := ["m", "many"]
theorem sc__law_next : FnScope N__law_next P__law_next (defScope s__law_next) := ⟨rfl, rfl, rfl, by decide +kernel, rfl, by decide +kernel, by decide +kernel⟩
theorem ok__law_next (W : Wd mg) {f : Addr} {fd : FuncData} (hf : mg "_law_next" = some (.ref f)) (F : Fun K "_law_next" "_law_next" s__law_next f fd) : Has P w K mg base 1 "_law_next" P__law_next sp__law_next :=
  ⟨f, fd, hf, F.kp, F.binds (ps := P__law_next) (fun _ _ _ _ _ _ us hl => match us, hl with | [_, _], _ => rfl), fun_ok F sc__law_next (fun as A Q h => len__law_next as A Q h) fun cdv A outer s H E hr => ⟨t__law_next, (dss_cons (ds_while PassesOwn.never (DW.dt (dw_and (vt_cmp (ci_ne hr.units) (ve_ix (hu_of hr.toRoom) (vv 0) de_str (fun _ _ => rfl)) (de_fl da_nil) (nomark _)) (dw_and1 (vt_cmp (ci_eq hr.units) (ve_ix (hu_of hr.toRoom) (ve_ix (hu_of hr.toRoom) (vv 0) de_str (fun _ _ => rfl)) de_int (fun _ _ => rfl)) de_int (nomark _)))))
      (dss_one (ds_asg (de_slice sv_mut (ve_ix (hu_of hr.toRoom) (vv 0) de_str (fun _ _ => rfl)) (vo_some de_int) do_none) (pg_sub (vv 0) de_str (wi_set (hu_of hr.toRoom))) gl_sub)))
    (dss_cons (ds_if (vt_cmp (ci_ne hr.units) (ve_ix (hu_of hr.toRoom) (vv 0) de_str (fun _ _ => rfl)) (de_fl da_nil) (nomark _))
      (dss_cons (ds_set (i := 2) sc__law_next.nd rfl (.inl rfl) (ve_ix (hu_of hr.toRoom) (ve_ix (hu_of hr.toRoom) (vv 0) de_str (fun _ _ => rfl)) de_int (fun _ _ => rfl)))
      (dss_cons (ds_asg (de_op o_fdiv (vv 2) (vv 1)) (pg_sub (ve_ix (hu_of hr.toRoom) (vv 0) de_str (fun _ _ => rfl)) de_int (wi_set (hu_of hr.toRoom))) gl_sub)
      (dss_one (ds_ret (de_op o_mod (de_callT t_int (by rfl) W.n_int (by decide +kernel) (da_cons (vv 2) da_nil)) (vv 1))))))
      dss_nil)
    (dss_cons (wd_par (i := 3) (j := 4) rfl sc__law_next.nd rfl rfl (by decide) rfl rfl (da_cons (ve_ix (hu_of hr.toRoom) (vv 0) de_str (fun _ _ => rfl)) (da_cons (ve_ix (hu_of hr.toRoom) (vv 0) de_str (fun _ _ => rfl)) da_nil)) rfl)
    (dss_cons (ds_asg (de_op o_add (vv 3) de_int) (pg_sub (vv 0) de_str (wi_set (hu_of hr.toRoom))) gl_sub)
    (dss_cons (ds_set (i := 5) sc__law_next.nd rfl (.inl rfl) (de_if (vt_cmp (ci_ne hr.units) (vv 4) (de_fl da_nil) (nomark _)) (ve_ix (hu_of hr.toRoom) (vv 4) (de_op o_mod (vv 3) (de_callB w_len (by rfl) W.n_len (by decide +kernel) (da_cons (vv 4) da_nil))) (fun _ _ => rfl)) de_int))
    (dss_cons (ds_set (i := 6) sc__law_next.nd rfl (.inl rfl) (de_op o_mulT (de_op o_mod (de_callT t_int (by rfl) W.n_int (by decide +kernel) (da_cons (vv 5) da_nil)) de_int) (de_op o_add (de_op o_mulT de_int (vv 3)) de_int)))
    (dss_cons (ds_set (i := 6) sc__law_next.nd rfl (.inl rfl) (de_op o_mod (de_op o_add (de_op o_add (de_op o_add (vv 6) (de_op o_mulT (de_op o_mulT de_int (vv 3)) (vv 3))) (de_op o_mulT de_int (vv 3))) de_int) de_int))
    (dss_one (ds_ret (de_op o_mod (de_op o_fdiv (de_op o_mod (de_op o_mulT (de_op o_mod (de_op o_mulT (vv 6) (vv 6)) de_int) de_int) de_int) de_int) (vv 1))))))))))), fun as AH Q h => rd__law_next as AH Q h⟩, fun_dat F⟩
abbrev s__law_gcd : Stmt := topS 60
abbrev N__law_gcd : List Str := ["one", "other"]
abbrev P__law_gcd : List Str := ["one", "other"]
theorem sc__law_gcd : FnScope N__law_gcd P__law_gcd (defScope s__law_gcd) := ⟨rfl, rfl, rfl, by decide +kernel, rfl, by decide +kernel, by decide +kernel⟩
theorem ok__law_gcd (W : Wd mg) {f : Addr} {fd : FuncData} (hf : mg "_law_gcd" = some (.ref f)) (F : Fun K "_law_gcd" "_law_gcd" s__law_gcd f fd) : Has P w K mg base 1 "_law_gcd" P__law_gcd sp__law_gcd :=
  ⟨f, fd, hf, F.kp, F.binds (ps := P__law_gcd) (fun _ _ _ _ _ _ us hl => match us, hl with | [_, _], _ => rfl), fun_ok F sc__law_gcd (fun as A Q h => len__law_gcd as A Q h) fun cdv A outer s H E hr => ⟨t__law_gcd, (dss_cons (ds_while PassesOwn.never (vt_cmp (ci_ne hr.units) (vv 1) de_int (nomark _))
      (dss_one (wd_par (i := 0) (j := 1) rfl sc__law_gcd.nd rfl rfl (by decide) rfl rfl (da_cons (vv 1) (da_cons (de_op o_mod (de_callT t_int (by rfl) W.n_int (by decide +kernel) (da_cons (vv 0) da_nil)) (vv 1)) da_nil)) rfl)))
    (dss_one (ds_ret (vv 0)))), fun as AH Q h => rd__law_gcd as AH Q h⟩, fun_dat F⟩
abbrev s__law_first : Stmt := topS 66
abbrev N__law_first : List Str := ["graph", "line"]
abbrev P__law_first : List Str := ["graph"]
theorem sc__law_first : FnScope N__law_first P__law_first (defScope s__law_first) := ⟨rfl, rfl, rfl, by decide +kernel, rfl, by decide +kernel, by decide +kernel⟩
theorem ok__law_first (W : Wd mg) {f : Addr} {fd : FuncData} (hf : mg "_law_first" = some (.ref f)) (F : Fun K "_law_first" "_law_first" s__law_first f fd) : Has P w K mg base 1 "_law_first" P__law_first sp__law_first :=
  ⟨f, fd, hf, F.kp, F.binds (ps := P__law_first) (fun _ _ _ _ _ _ us hl => match us, hl with | [_], _ => rfl), fun_ok F sc__law_first (fun as A Q h => len__law_first as A Q h) fun cdv A outer s H E hr => ⟨t__law_first, (dss_one (ds_ret (de_tup (da_cons (de_op o_mulT (de_tup (da_cons de_int da_nil)) (de_callB w_len (by rfl) W.n_len (by decide +kernel) (da_cons (ve_ix (hu_of hr.toRoom) (vv 0) de_int (fun _ _ => rfl)) da_nil))) (da_cons (de_callT w_tuple (by rfl) W.n_tuple (by decide +kernel) (da_cons (lc_v (de_lc (own := [("line", 1)]) rfl sc__law_first.nd (dj_sq (ve_ix (hu_of hr.toRoom) (vv 0) de_int (fun _ _ => rfl))) (blkOk_by (own := [("line", 1)]) (N := N__law_first) (sc := defScope s__law_first) (by decide +kernel)) gl_name (wip_name (by decide)) mon_name (fun _ _ _ _ _ => (pg_name (i := 1) sc__law_first.nd rfl (.inl rfl))) (fun _ _ _ _ _ => dts_nil) (fun _ _ _ _ _ => (ve_ix (hu_of hr.toRoom) (vv 1) de_int (fun _ _ => rfl))))) da_nil)) da_nil))))), fun as AH Q h => rd__law_first as AH Q h⟩, fun_dat F⟩
abbrev s__law_wrong_tasks : Stmt := topS 68
abbrev N__law_wrong_tasks : List Str := ["name", "rows"]
abbrev P__law_wrong_tasks : List Str := ["name"]
theorem sc__law_wrong_tasks : FnScope N__law_wrong_tasks P__law_wrong_tasks (defScope s__law_wrong_tasks) := ⟨rfl, rfl, rfl, by decide +kernel, rfl, by decide +kernel, by decide +kernel⟩
theorem ok__law_wrong_tasks (W : Wd mg) {f : Addr} {fd : FuncData} (hf : mg "_law_wrong_tasks" = some (.ref f)) (F : Fun K "_law_wrong_tasks" "_law_wrong_tasks" s__law_wrong_tasks f fd) : Has P w K mg base 1 "_law_wrong_tasks" P__law_wrong_tasks sp__law_wrong_tasks :=
  ⟨f, fd, hf, F.kp, F.binds (ps := P__law_wrong_tasks) (fun _ _ _ _ _ _ us hl => match us, hl with | [_], _ => rfl), fun_ok F sc__law_wrong_tasks (fun as A Q h => len__law_wrong_tasks as A Q h) fun cdv A outer s H E hr => ⟨t__law_wrong_tasks, (dss_cons (ds_set (i := 1) sc__law_wrong_tasks.nd rfl (.inl rfl) (de_fl (da_cons (de_tup (da_cons (vv 0) da_nil)) (da_cons (de_tup (da_cons (vv 0) (da_cons (de_tup (da_cons de_int da_nil)) (da_cons (de_tup da_nil) da_nil)))) (da_cons (de_fl (da_cons (vv 0) (da_cons (de_tup (da_cons de_int da_nil)) da_nil))) (da_cons (de_tup (da_cons (vv 0) (da_cons (de_fl (da_cons de_int da_nil)) da_nil))) (da_cons (de_tup (da_cons (vv 0) (da_cons (de_tup da_nil) da_nil))) (da_cons (de_tup (da_cons (vv 0) (da_cons (de_tup (da_cons de_int da_nil)) da_nil))) (da_cons (de_tup (da_cons (vv 0) (da_cons (de_tup (da_cons de_int da_nil)) da_nil))) (da_cons (de_tup (da_cons (vv 0) (da_cons (de_tup (da_cons de_bl da_nil)) da_nil))) (da_cons (de_tup (da_cons (vv 0) (da_cons (de_tup (da_cons de_str da_nil)) da_nil))) da_nil)))))))))))
    (dss_cons (ds_set (i := 1) sc__law_wrong_tasks.nd rfl (.inl rfl) (de_op o_addL (vv 1) (de_fl (da_cons (de_tup (da_cons (vv 0) (da_cons (de_tup (da_cons de_int (da_cons de_non da_nil))) da_nil))) (da_cons (de_tup (da_cons (vv 0) (da_cons de_int da_nil))) (da_cons (de_tup (da_cons (vv 0) (da_cons (de_op o_mulT (de_tup (da_cons de_int da_nil)) de_int) da_nil))) (da_cons (de_tup (da_cons de_str (da_cons (de_tup (da_cons de_int da_nil)) da_nil))) (da_cons (de_tup (da_cons de_str (da_cons (de_tup (da_cons de_int da_nil)) da_nil))) (da_cons (de_tup (da_cons de_str (da_cons (de_tup (da_cons de_int da_nil)) da_nil))) (da_cons (de_tup (da_cons de_str (da_cons (de_tup (da_cons de_int da_nil)) da_nil))) (da_cons (de_tup (da_cons de_str (da_cons (de_tup (da_cons de_int da_nil)) da_nil))) da_nil)))))))))))
    (dss_one (ds_ret (de_op o_addL (vv 1) (de_fl (da_cons (de_tup (da_cons de_str (da_cons (de_tup (da_cons de_int da_nil)) da_nil))) (da_cons (de_tup (da_cons de_int (da_cons (de_tup (da_cons de_int da_nil)) da_nil))) (da_cons (de_tup (da_cons de_non (da_cons (de_tup (da_cons de_int da_nil)) da_nil))) (da_cons (de_tup (da_cons (de_fl (da_cons (vv 0) da_nil)) (da_cons (de_tup (da_cons de_int da_nil)) da_nil))) (da_cons (de_tup (da_cons (de_tup (da_cons (vv 0) da_nil)) (da_cons (de_tup (da_cons de_int da_nil)) da_nil))) (da_cons (vv 0) (da_cons de_non (da_cons (de_tup da_nil) da_nil)))))))))))))), fun as AH Q h => rd__law_wrong_tasks as AH Q h⟩, fun_dat F⟩
abbrev s__law_wrong_lines : Stmt := topS 69
abbrev N__law_wrong_lines : List Str := ["name", "rows"]
abbrev P__law_wrong_lines : List Str := ["name"]
theorem sc__law_wrong_lines : FnScope N__law_wrong_lines P__law_wrong_lines (defScope s__law_wrong_lines) := ⟨rfl, rfl, rfl, by decide +kernel, rfl, by decide +kernel, by decide +kernel⟩
theorem ok__law_wrong_lines (W : Wd mg) {f : Addr} {fd : FuncData} (hf : mg "_law_wrong_lines" = some (.ref f)) (F : Fun K "_law_wrong_lines" "_law_wrong_lines" s__law_wrong_lines f fd) : Has P w K mg base 1 "_law_wrong_lines" P__law_wrong_lines sp__law_wrong_lines :=
  ⟨f, fd, hf, F.kp, F.binds (ps := P__law_wrong_lines) (fun _ _ _ _ _ _ us hl => match us, hl with | [_], _ => rfl), fun_ok F sc__law_wrong_lines (fun as A Q h => len__law_wrong_lines as A Q h) fun cdv A outer s H E hr => ⟨t__law_wrong_lines, (dss_cons (ds_set (i := 1) sc__law_wrong_lines.nd rfl (.inl rfl) (de_fl (da_cons (de_tup (da_cons (vv 0) (da_cons (vv 0) (da_cons (de_tup (da_cons de_int da_nil)) (da_cons (de_tup (da_cons de_int da_nil)) da_nil))))) (da_cons (de_tup (da_cons (vv 0) (da_cons (vv 0) (da_cons (de_tup (da_cons de_int da_nil)) (da_cons (de_tup (da_cons de_int da_nil)) (da_cons de_int (da_cons de_int da_nil))))))) (da_cons (de_fl (da_cons (vv 0) (da_cons (vv 0) (da_cons (de_tup (da_cons de_int da_nil)) (da_cons (de_tup (da_cons de_int da_nil)) (da_cons de_int da_nil)))))) (da_cons (de_tup (da_cons (vv 0) (da_cons (vv 0) (da_cons (de_fl (da_cons de_int da_nil)) (da_cons (de_tup (da_cons de_int da_nil)) (da_cons de_int da_nil)))))) da_nil))))))
    (dss_cons (ds_set (i := 1) sc__law_wrong_lines.nd rfl (.inl rfl) (de_op o_addL (vv 1) (de_fl (da_cons (de_tup (da_cons (vv 0) (da_cons (vv 0) (da_cons (de_tup (da_cons de_int da_nil)) (da_cons de_int (da_cons de_int da_nil)))))) (da_cons (de_tup (da_cons (vv 0) (da_cons (vv 0) (da_cons (de_tup (da_cons de_int da_nil)) (da_cons (de_tup (da_cons de_int da_nil)) (da_cons de_int da_nil)))))) (da_cons (de_tup (da_cons (vv 0) (da_cons (vv 0) (da_cons (de_tup (da_cons de_int da_nil)) (da_cons (de_tup (da_cons (ve_neg de_int) da_nil)) (da_cons de_int da_nil)))))) (da_cons (de_tup (da_cons (vv 0) (da_cons (vv 0) (da_cons (de_tup (da_cons de_bl da_nil)) (da_cons (de_tup (da_cons de_int da_nil)) (da_cons de_int da_nil)))))) da_nil)))))))
    (dss_cons (ds_set (i := 1) sc__law_wrong_lines.nd rfl (.inl rfl) (de_op o_addL (vv 1) (de_fl (da_cons (de_tup (da_cons (vv 0) (da_cons (vv 0) (da_cons (de_tup (da_cons de_int da_nil)) (da_cons (de_tup (da_cons de_str da_nil)) (da_cons de_int da_nil)))))) (da_cons (de_tup (da_cons (vv 0) (da_cons (vv 0) (da_cons (de_tup (da_cons de_int da_nil)) (da_cons (de_tup (da_cons de_int da_nil)) (da_cons (ve_neg de_int) da_nil)))))) (da_cons (de_tup (da_cons (vv 0) (da_cons (vv 0) (da_cons (de_tup (da_cons de_int da_nil)) (da_cons (de_tup (da_cons de_int da_nil)) (da_cons de_int da_nil)))))) (da_cons (de_tup (da_cons (vv 0) (da_cons (vv 0) (da_cons (de_tup (da_cons de_int da_nil)) (da_cons (de_tup (da_cons de_int da_nil)) (da_cons de_non da_nil)))))) da_nil)))))))
    (dss_cons (ds_set (i := 1) sc__law_wrong_lines.nd rfl (.inl rfl) (de_op o_addL (vv 1) (de_fl (da_cons (de_tup (da_cons (vv 0) (da_cons (vv 0) (da_cons (de_tup (da_cons de_int da_nil)) (da_cons (de_tup (da_cons de_int da_nil)) (da_cons de_bl da_nil)))))) (da_cons (de_tup (da_cons (vv 0) (da_cons de_int (da_cons (de_tup (da_cons de_int da_nil)) (da_cons (de_tup (da_cons de_int da_nil)) (da_cons de_int da_nil)))))) (da_cons (de_tup (da_cons (de_fl (da_cons (vv 0) da_nil)) (da_cons (vv 0) (da_cons (de_tup (da_cons de_int da_nil)) (da_cons (de_tup (da_cons de_int da_nil)) (da_cons de_int da_nil)))))) (da_cons (de_tup (da_cons de_str (da_cons (vv 0) (da_cons (de_tup (da_cons de_int da_nil)) (da_cons (de_tup (da_cons de_int da_nil)) (da_cons de_int da_nil)))))) (da_cons de_non (da_cons (vv 0) da_nil)))))))))
    (dss_one (ds_ret (de_op o_addL (vv 1) (de_fl (da_cons (de_tup (da_cons (vv 0) (da_cons (de_tup (da_cons (vv 0) da_nil)) (da_cons (de_tup (da_cons de_int da_nil)) (da_cons (de_tup (da_cons de_int da_nil)) (da_cons de_int da_nil)))))) (da_cons (de_tup (da_cons (vv 0) (da_cons (vv 0) (da_cons (de_tup (da_cons de_int da_nil)) (da_cons (de_tup (da_cons de_int da_nil)) (da_cons (de_tup (da_cons de_int da_nil)) da_nil)))))) (da_cons (de_tup (da_cons (vv 0) (da_cons de_str (da_cons (de_tup (da_cons de_int da_nil)) (da_cons (de_tup (da_cons de_int da_nil)) (da_cons de_int da_nil)))))) da_nil))))))))))), fun as AH Q h => rd__law_wrong_lines as AH Q h⟩, fun_dat F⟩
abbrev s_is_between : Stmt := topS 11
abbrev N_is_between : List Str := ["thing", "least", "most"]
abbrev P_is_between : List Str := ["thing", "least", "most"]
theorem sc_is_between : FnScope N_is_between P_is_between (defScope s_is_between) := ⟨rfl, rfl, rfl, by decide +kernel, rfl, by decide +kernel, by decide +kernel⟩
theorem ok_is_between (W : Wd mg) (h_is_whole : Has P w K mg base 1 "is_whole" P_is_whole sp_is_whole) {f : Addr} {fd : FuncData} (hf : mg "is_between" = some (.ref f)) (F : Fun K "is_between" "is_between" s_is_between f fd) : Has P w K mg base 2 "is_between" P_is_between sp_is_between :=
  ⟨f, fd, hf, F.kp, F.binds (ps := P_is_between) (fun _ _ _ _ _ _ us hl => match us, hl with | [_, _, _], _ => rfl), fun_ok F sc_is_between (fun as A Q h => len_is_between as A Q h) fun cdv A outer s H E hr => ⟨t_is_between, (dss_one (ds_ret (ve_and (de_has h_is_whole hr (by rfl) (da_cons (vv 0) da_nil)) (de_one (de_chain c_le c_le (vv 1) (vv 0) (vv 2)))))), fun as AH Q h => rd_is_between as AH Q h⟩, fun_dat F⟩
theorem okg_is_between (W : Wd mg) (hg_is_whole : Has P w K mg base 1 "is_whole" P_is_whole sg_is_whole) {f : Addr} {fd : FuncData} (hf : mg "is_between" = some (.ref f)) (F : Fun K "is_between" "is_between" s_is_between f fd) : Has P w K mg base 2 "is_between" P_is_between sg_is_between :=
  ⟨f, fd, hf, F.kp, F.binds (ps := P_is_between) (fun _ _ _ _ _ _ us hl => match us, hl with | [_, _, _], _ => rfl), fun_ok F sc_is_between (fun as A Q h => leng_is_between as A Q h) fun cdv A outer s H E hr => ⟨tg_is_between, (dss_one (ds_ret (ve_and (de_has hg_is_whole hr (by rfl) (da_cons (vv 0) da_nil)) (de_one (de_chain c_le c_le (vv 1) (vv 0) (vv 2)))))), fun as AH Q h => rg_is_between as AH Q h⟩, fun_dat F⟩
abbrev s_task_number : Stmt := topS 17
abbrev N_task_number : List Str := ["graph", "name"]
abbrev P_task_number : List Str := ["graph", "name"]
theorem sc_task_number : FnScope N_task_number P_task_number (defScope s_task_number) := ⟨rfl, rfl, rfl, by decide +kernel, rfl, by decide +kernel, by decide +kernel⟩
theorem ok_task_number (W : Wd mg) (h_task_names : Has P w K mg base 1 "task_names" P_task_names sp_task_names) {f : Addr} {fd : FuncData} (hf : mg "task_number" = some (.ref f)) (F : Fun K "task_number" "task_number" s_task_number f fd) : Has P w K mg base 2 "task_number" P_task_number sp_task_number :=
  ⟨f, fd, hf, F.kp, F.binds (ps := P_task_number) (fun _ _ _ _ _ _ us hl => match us, hl with | [_, _], _ => rfl), fun_ok F sc_task_number (fun as A Q h => len_task_number as A Q h) fun cdv A outer s H E hr => ⟨t_task_number, (dss_cons (ds_if (DW.dt (dw_or (dt_not (vt_tru (de_callB w_isi (by rfl) W.n_isinstance (by decide +kernel) (da_cons (vv 1) (da_cons (de_ty (by rfl) W.n_str (by decide +kernel)) da_nil))))) (dw_or1 (vt_cmp (ci_notin (hu_of hr.toRoom)) (vv 1) (de_has h_task_names hr (by rfl) (da_cons (vv 0) da_nil)) rfl))))
      (dss_one ds_never)
      dss_nil)
    (dss_one (ds_ret (we_ml PySem.F.slot_list_index PySem.F.type_list_index ni_idx (de_has h_task_names hr (by rfl) (da_cons (vv 0) da_nil)) (da_cons (vv 1) da_nil))))), fun as AH Q h => rd_task_number as AH Q h⟩, fun_dat F⟩
abbrev s_at_state : Stmt := topS 35
abbrev N_at_state : List Str := ["graph", "state", "names", "tasks", "lines", "line", "stock", "gives", "takes", "task", "phase"]
abbrev P_at_state : List Str := ["graph", "state"]
theorem sc_at_state : FnScope N_at_state P_at_state (defScope s_at_state) := ⟨rfl, rfl, rfl, by decide +kernel, rfl, by decide +kernel, by decide +kernel⟩
theorem ok_at_state (W : Wd mg) (h_task_names : Has P w K mg base 1 "task_names" P_task_names sp_task_names) (h_turned : Has P w K mg base 1 "turned" P_turned sp_turned) {f : Addr} {fd : FuncData} (hf : mg "at_state" = some (.ref f)) (F : Fun K "at_state" "at_state" s_at_state f fd) : Has P w K mg base 2 "at_state" P_at_state sp_at_state :=
  ⟨f, fd, hf, F.kp, F.binds (ps := P_at_state) (fun _ _ _ _ _ _ us hl => match us, hl with | [_, _], _ => rfl), fun_ok F sc_at_state (fun as A Q h => len_at_state as A Q h) fun cdv A outer s H E hr => ⟨t_at_state, (dss_cons (ds_set (i := 2) sc_at_state.nd rfl (.inl rfl) (de_has h_task_names hr (by rfl) (da_cons (vv 0) da_nil)))
    (dss_cons (lcs_v (ds_setLc (own := [("task", 9), ("phase", 10)]) (i := 3) rfl sc_at_state.nd rfl rfl (sw_true rfl rfl rfl (by decide +kernel)) (di_zip (by rfl) W.n_zip (da_cons (ve_ix (hu_of hr.toRoom) (vv 0) de_int (fun _ _ => rfl)) (da_cons (ve_ix (hu_of hr.toRoom) (vv 1) de_int (fun _ _ => rfl)) da_nil))) (blkOk_by (own := [("task", 9), ("phase", 10)]) (N := N_at_state) (sc := defScope s_at_state) (by decide +kernel)) (gk_tup (gk_cons gl_name (gk_cons gl_name gk_nil))) (wip_tup (wip_cons mon_name (mon_cons mon_name mon_nil) (wip_name (by decide)) (wip_cons mon_name mon_nil (wip_name (by decide)) wip_nil))) (mon_tup (mon_cons mon_name (mon_cons mon_name mon_nil))) (fun _ _ _ _ _ => (pg_tup rfl (pgs_cons (pg_name (i := 9) sc_at_state.nd rfl (.inl rfl)) (pgs_cons (pg_name (i := 10) sc_at_state.nd rfl (.inl rfl)) pgs_nil)))) (fun _ _ _ _ _ => dts_nil) (fun _ _ _ _ _ => (de_tup (da_cons (ve_ix (hu_of hr.toRoom) (vv 9) de_int (fun _ _ => rfl)) (da_cons (de_has h_turned hr (by rfl) (da_cons (ve_ix (hu_of hr.toRoom) (vv 9) de_int (fun _ _ => rfl)) (da_cons (vv 10) da_nil))) da_nil))))))
    (dss_cons (ds_set (i := 4) sc_at_state.nd rfl (.inl rfl) (de_lst da_nil))
    (dss_cons (wd_for PassesOwn.never rfl (di_zip (by rfl) W.n_zip (da_cons (ve_ix (hu_of hr.toRoom) (vv 0) de_int (fun _ _ => rfl)) (da_cons (ve_ix (hu_of hr.toRoom) (vv 1) de_int (fun _ _ => rfl)) da_nil))) (pg_tup rfl (pgs_cons (pg_name (i := 5) sc_at_state.nd rfl (.inl rfl)) (pgs_cons (pg_name (i := 6) sc_at_state.nd rfl (.inl rfl)) pgs_nil))) (gk_tup (gk_cons gl_name (gk_cons gl_name gk_nil)))
      (dss_cons (ds_set (i := 7) sc_at_state.nd rfl (.inl rfl) (de_has h_turned hr (by rfl) (da_cons (ve_ix (hu_of hr.toRoom) (vv 5) de_int (fun _ _ => rfl)) (da_cons (ve_ix (hu_of hr.toRoom) (ve_ix (hu_of hr.toRoom) (vv 1) de_int (fun _ _ => rfl)) (we_ml PySem.F.slot_list_index PySem.F.type_list_index ni_idx (vv 2) (da_cons (ve_ix (hu_of hr.toRoom) (vv 5) de_int (fun _ _ => rfl)) da_nil)) (fun _ _ => rfl)) da_nil))))
      (dss_cons (ds_set (i := 8) sc_at_state.nd rfl (.inl rfl) (de_has h_turned hr (by rfl) (da_cons (ve_ix (hu_of hr.toRoom) (vv 5) de_int (fun _ _ => rfl)) (da_cons (ve_ix (hu_of hr.toRoom) (ve_ix (hu_of hr.toRoom) (vv 1) de_int (fun _ _ => rfl)) (we_ml PySem.F.slot_list_index PySem.F.type_list_index ni_idx (vv 2) (da_cons (ve_ix (hu_of hr.toRoom) (vv 5) de_int (fun _ _ => rfl)) da_nil)) (fun _ _ => rfl)) da_nil))))
      (dss_one (ds_expr (we_ml PySem.F.slot_list_append PySem.F.type_list_append ni_app (vv 4) (da_cons (de_tup (da_cons (ve_ix (hu_of hr.toRoom) (vv 5) de_int (fun _ _ => rfl)) (da_cons (ve_ix (hu_of hr.toRoom) (vv 5) de_int (fun _ _ => rfl)) (da_cons (vv 7) (da_cons (vv 8) (da_cons (vv 6) da_nil)))))) da_nil)))))))
    (dss_one (ds_ret (de_tup (da_cons (de_callT w_tuple (by rfl) W.n_tuple (by decide +kernel) (da_cons (vv 3) da_nil)) (da_cons (de_callT w_tuple (by rfl) W.n_tuple (by decide +kernel) (da_cons (vv 4) da_nil)) da_nil))))))))), fun as AH Q h => rd_at_state as AH Q h⟩, fun_dat F⟩
abbrev s_leading_to : Stmt := topS 37
abbrev N_leading_to : List Str := ["graph", "names", "lists", "number", "line", "_"]
abbrev P_leading_to : List Str := ["graph"]
theorem sc_leading_to : FnScope N_leading_to P_leading_to (defScope s_leading_to) := ⟨rfl, rfl, rfl, by decide +kernel, rfl, by decide +kernel, by decide +kernel⟩
theorem ok_leading_to (W : Wd mg) (h_task_names : Has P w K mg base 1 "task_names" P_task_names sp_task_names) {f : Addr} {fd : FuncData} (hf : mg "leading_to" = some (.ref f)) (F : Fun K "leading_to" "leading_to" s_leading_to f fd) : Has P w K mg base 2 "leading_to" P_leading_to sp_leading_to :=
  ⟨f, fd, hf, F.kp, F.binds (ps := P_leading_to) (fun _ _ _ _ _ _ us hl => match us, hl with | [_], _ => rfl), fun_ok F sc_leading_to (fun as A Q h => len_leading_to as A Q h) fun cdv A outer s H E hr => ⟨t_leading_to, (dss_cons (ds_set (i := 1) sc_leading_to.nd rfl (.inl rfl) (de_has h_task_names hr (by rfl) (da_cons (vv 0) da_nil)))
    (dss_cons (lcs_v (ds_setLc (own := [("_", 5)]) (i := 2) rfl sc_leading_to.nd rfl rfl (sw_true rfl rfl rfl (by decide +kernel)) (dj_sq (vv 1)) (blkOk_by (own := [("_", 5)]) (N := N_leading_to) (sc := defScope s_leading_to) (by decide +kernel)) gl_name (wip_name (by decide)) mon_name (fun _ _ _ _ _ => (pg_name (i := 5) sc_leading_to.nd rfl (.inl rfl))) (fun _ _ _ _ _ => dts_nil) (fun _ _ _ _ _ => (de_lst da_nil))))
    (dss_cons (wd_for PassesOwn.never rfl (dj_enu (by rfl) W.n_enumerate (da_cons (ve_ix (hu_of hr.toRoom) (vv 0) de_int (fun _ _ => rfl)) da_nil)) (pg_tup rfl (pgs_cons (pg_name (i := 3) sc_leading_to.nd rfl (.inl rfl)) (pgs_cons (pg_name (i := 4) sc_leading_to.nd rfl (.inl rfl)) pgs_nil))) (gk_tup (gk_cons gl_name (gk_cons gl_name gk_nil)))
      (dss_one (ds_expr (we_ml PySem.F.slot_list_append PySem.F.type_list_append ni_app (ve_ix (hu_of hr.toRoom) (vv 2) (we_ml PySem.F.slot_list_index PySem.F.type_list_index ni_idx (vv 1) (da_cons (ve_ix (hu_of hr.toRoom) (vv 4) de_int (fun _ _ => rfl)) da_nil)) (fun _ _ => rfl)) (da_cons (vv 3) da_nil)))))
    (dss_one (ds_ret (vv 2)))))), fun as AH Q h => rd_leading_to as AH Q h⟩, fun_dat F⟩
abbrev s_leading_from : Stmt := topS 38
abbrev N_leading_from : List Str := ["graph", "names", "lists", "number", "line", "_"]
abbrev P_leading_from : List Str := ["graph"]
theorem sc_leading_from : FnScope N_leading_from P_leading_from (defScope s_leading_from) := ⟨rfl, rfl, rfl, by decide +kernel, rfl, by decide +kernel, by decide +kernel⟩
theorem ok_leading_from (W : Wd mg) (h_task_names : Has P w K mg base 1 "task_names" P_task_names sp_task_names) {f : Addr} {fd : FuncData} (hf : mg "leading_from" = some (.ref f)) (F : Fun K "leading_from" "leading_from" s_leading_from f fd) : Has P w K mg base 2 "leading_from" P_leading_from sp_leading_from :=
  ⟨f, fd, hf, F.kp, F.binds (ps := P_leading_from) (fun _ _ _ _ _ _ us hl => match us, hl with | [_], _ => rfl), fun_ok F sc_leading_from (fun as A Q h => len_leading_from as A Q h) fun cdv A outer s H E hr => ⟨t_leading_from, (dss_cons (ds_set (i := 1) sc_leading_from.nd rfl (.inl rfl) (de_has h_task_names hr (by rfl) (da_cons (vv 0) da_nil)))
    (dss_cons (lcs_v (ds_setLc (own := [("_", 5)]) (i := 2) rfl sc_leading_from.nd rfl rfl (sw_true rfl rfl rfl (by decide +kernel)) (dj_sq (vv 1)) (blkOk_by (own := [("_", 5)]) (N := N_leading_from) (sc := defScope s_leading_from) (by decide +kernel)) gl_name (wip_name (by decide)) mon_name (fun _ _ _ _ _ => (pg_name (i := 5) sc_leading_from.nd rfl (.inl rfl))) (fun _ _ _ _ _ => dts_nil) (fun _ _ _ _ _ => (de_lst da_nil))))
    (dss_cons (wd_for PassesOwn.never rfl (dj_enu (by rfl) W.n_enumerate (da_cons (ve_ix (hu_of hr.toRoom) (vv 0) de_int (fun _ _ => rfl)) da_nil)) (pg_tup rfl (pgs_cons (pg_name (i := 3) sc_leading_from.nd rfl (.inl rfl)) (pgs_cons (pg_name (i := 4) sc_leading_from.nd rfl (.inl rfl)) pgs_nil))) (gk_tup (gk_cons gl_name (gk_cons gl_name gk_nil)))
      (dss_one (ds_expr (we_ml PySem.F.slot_list_append PySem.F.type_list_append ni_app (ve_ix (hu_of hr.toRoom) (vv 2) (we_ml PySem.F.slot_list_index PySem.F.type_list_index ni_idx (vv 1) (da_cons (ve_ix (hu_of hr.toRoom) (vv 4) de_int (fun _ _ => rfl)) da_nil)) (fun _ _ => rfl)) (da_cons (vv 3) da_nil)))))
    (dss_one (ds_ret (vv 2)))))), fun as AH Q h => rd_leading_from as AH Q h⟩, fun_dat F⟩
abbrev s_need_told : Stmt := topS 43
abbrev N_need_told : List Str := ["line", "firing"]
abbrev P_need_told : List Str := ["line", "firing"]
theorem sc_need_told : FnScope N_need_told P_need_told (defScope s_need_told) := ⟨rfl, rfl, rfl, by decide +kernel, rfl, by decide +kernel, by decide +kernel⟩
theorem ok_need_told (W : Wd mg) (h_counted : Has P w K mg base 1 "counted" P_counted sp_counted) (h_least_count : Has P w K mg base 1 "least_count" P_least_count sp_least_count) {f : Addr} {fd : FuncData} (hf : mg "need_told" = some (.ref f)) (F : Fun K "need_told" "need_told" s_need_told f fd) : Has P w K mg base 2 "need_told" P_need_told sp_need_told :=
  ⟨f, fd, hf, F.kp, F.binds (ps := P_need_told) (fun _ _ _ _ _ _ us hl => match us, hl with | [_, _], _ => rfl), fun_ok F sc_need_told (fun as A Q h => len_need_told as A Q h) fun cdv A outer s H E hr => ⟨t_need_told, (dss_one (ds_ret (de_callB (b_max rfl) (by rfl) W.n_max (by decide +kernel) (da_cons de_int (da_cons (de_has h_least_count hr (by rfl) (da_cons (ve_ix (hu_of hr.toRoom) (vv 0) de_int (fun _ _ => rfl)) (da_cons (de_op o_sub (de_has h_counted hr (by rfl) (da_cons (ve_ix (hu_of hr.toRoom) (vv 0) de_int (fun _ _ => rfl)) (da_cons (de_op o_add (vv 1) de_int) da_nil))) (ve_ix (hu_of hr.toRoom) (vv 0) de_int (fun _ _ => rfl))) da_nil))) da_nil))))), fun as AH Q h => rd_need_told as AH Q h⟩, fun_dat F⟩
abbrev s__law_of : Stmt := topS 58
abbrev N__law_of : List Str := ["m", "some"]
abbrev P__law_of : List Str := ["m", "some"]
theorem sc__law_of : FnScope N__law_of P__law_of (defScope s__law_of) := ⟨rfl, rfl, rfl, by decide +kernel, rfl, by decide +kernel, by decide +kernel⟩
theorem ok__law_of (W : Wd mg) (h__law_next : Has P w K mg base 1 "_law_next" P__law_next sp__law_next) {f : Addr} {fd : FuncData} (hf : mg "_law_of" = some (.ref f)) (F : Fun K "_law_of" "_law_of" s__law_of f fd) : Has P w K mg base 2 "_law_of" P__law_of sp__law_of :=
  ⟨f, fd, hf, F.kp, F.binds (ps := P__law_of) (fun _ _ _ _ _ _ us hl => match us, hl with | [_, _], _ => rfl), fun_ok F sc__law_of (fun as A Q h => len__law_of as A Q h) fun cdv A outer s H E hr => ⟨t__law_of, (dss_one (ds_ret (ve_ix (hu_of hr.toRoom) (vv 1) (de_has h__law_next hr (by rfl) (da_cons (vv 0) (da_cons (de_callB w_len (by rfl) W.n_len (by decide +kernel) (da_cons (vv 1) da_nil)) da_nil))) (fun _ _ => rfl)))), fun as AH Q h => rd__law_of as AH Q h⟩, fun_dat F⟩
abbrev s__law_names : Stmt := topS 59
abbrev N__law_names : List Str := ["m", "many", "strides", "letters", "found", "shift", "stride", "k", "turn"]
abbrev P__law_names : List Str := ["m", "many"]
theorem sc__law_names : FnScope N__law_names P__law_names (defScope s__law_names) := ⟨rfl, rfl, rfl, by decide +kernel, rfl, by decide +kernel, by decide +kernel⟩
theorem ok__law_names (W : Wd mg) (h__law_next : Has P w K mg base 1 "_law_next" P__law_next sp__law_next) {f : Addr} {fd : FuncData} (hf : mg "_law_names" = some (.ref f)) (F : Fun K "_law_names" "_law_names" s__law_names f fd) : Has P w K mg base 2 "_law_names" P__law_names sp__law_names :=
  ⟨f, fd, hf, F.kp, F.binds (ps := P__law_names) (fun _ _ _ _ _ _ us hl => match us, hl with | [_, _], _ => rfl), fun_ok F sc__law_names (fun as A Q h => len__law_names as A Q h) fun cdv A outer s H E hr => ⟨t__law_names, (dss_cons (wd_par3 (i := 2) (j := 3) (l := 4) rfl sc__law_names.nd rfl rfl rfl (by decide) (by decide) (by decide) rfl rfl rfl (da_cons (de_fl (da_cons de_int (da_cons de_int (da_cons de_int (da_cons de_int (da_cons de_int (da_cons de_int (da_cons de_int (da_cons de_int (da_cons de_int (da_cons de_int (da_cons de_int (da_cons de_int da_nil))))))))))))) (da_cons de_str (da_cons (de_lst da_nil) da_nil))) rfl)
    (dss_cons (wd_par (i := 5) (j := 6) rfl sc__law_names.nd rfl rfl (by decide) rfl rfl (da_cons (de_has h__law_next hr (by rfl) (da_cons (vv 0) (da_cons de_int da_nil))) (da_cons (ve_ix (hu_of hr.toRoom) (vv 2) (de_has h__law_next hr (by rfl) (da_cons (vv 0) (da_cons de_int da_nil))) (fun _ _ => rfl)) da_nil)) rfl)
    (dss_cons (wd_for PassesOwn.never rfl (dj_rg1 (by rfl) W.n_range (da_cons (vv 1) da_nil)) (pg_name (i := 7) sc__law_names.nd rfl (.inl rfl)) gl_name
      (dss_one (ds_expr (we_ml PySem.F.slot_list_append PySem.F.type_list_append ni_app (vv 4) (da_cons (de_op o_add (ve_ix (hu_of hr.toRoom) (vv 3) (de_op o_mod (de_callT t_int (by rfl) W.n_int (by decide +kernel) (da_cons (de_op o_add (de_op o_mulT (vv 7) (vv 6)) (vv 5)) da_nil)) de_int) (fun _ _ => rfl)) (we_join de_str (lc_v (de_lc (own := [("turn", 8)]) rfl sc__law_names.nd (dj_rg1 (by rfl) W.n_range (da_cons (de_has h__law_next hr (by rfl) (da_cons (vv 0) (da_cons de_int da_nil))) da_nil)) (blkOk_by (own := [("turn", 8)]) (N := N__law_names) (sc := defScope s__law_names) (by decide +kernel)) gl_name (wip_name (by decide)) mon_name (fun _ _ _ _ _ => (pg_name (i := 8) sc__law_names.nd rfl (.inl rfl))) (fun _ _ _ _ _ => dts_nil) (fun _ _ _ _ _ => (de_callT t_str (by rfl) W.n_str (by decide +kernel) (da_cons (de_has h__law_next hr (by rfl) (da_cons (vv 0) (da_cons de_int da_nil))) da_nil))))))) da_nil)))))
    (dss_one (ds_ret (de_callT w_tuple (by rfl) W.n_tuple (by decide +kernel) (da_cons (vv 4) da_nil))))))), fun as AH Q h => rd__law_names as AH Q h⟩, fun_dat F⟩
abbrev s__law_shared : Stmt := topS 61
abbrev N__law_shared : List Str := ["m", "total", "phases", "rows", "k", "at"]
abbrev P__law_shared : List Str := ["m", "total", "phases"]
theorem sc__law_shared : FnScope N__law_shared P__law_shared (defScope s__law_shared) := ⟨rfl, rfl, rfl, by decide +kernel, rfl, by decide +kernel, by decide +kernel⟩
theorem ok__law_shared (W : Wd mg) (h__law_next : Has P w K mg base 1 "_law_next" P__law_next sp__law_next) {f : Addr} {fd : FuncData} (hf : mg "_law_shared" = some (.ref f)) (F : Fun K "_law_shared" "_law_shared" s__law_shared f fd) : Has P w K mg base 2 "_law_shared" P__law_shared sp__law_shared :=
  ⟨f, fd, hf, F.kp, F.binds (ps := P__law_shared) (fun _ _ _ _ _ _ us hl => match us, hl with | [_, _, _], _ => rfl), fun_ok F sc__law_shared (fun as A Q h => len__law_shared as A Q h) fun cdv A outer s H E hr => ⟨t__law_shared, (dss_cons (ds_set (i := 3) sc__law_shared.nd rfl (.inl rfl) (de_op o_mulM (de_fl (da_cons de_int da_nil)) (vv 2)))
    (dss_cons (wd_for PassesOwn.never rfl (dj_rg1 (by rfl) W.n_range (da_cons (vv 1) da_nil)) (pg_name (i := 4) sc__law_shared.nd rfl (.inl rfl)) gl_name
      (dss_cons (ds_set (i := 5) sc__law_shared.nd rfl (.inl rfl) (de_has h__law_next hr (by rfl) (da_cons (vv 0) (da_cons (vv 2) da_nil))))
      (dss_cons (ds_while PassesOwn.never (vt_cmp (ci_eq hr.units) (ve_ix (hu_of hr.toRoom) (vv 3) (vv 5) (fun _ _ => rfl)) de_int (nomark _))
        (dss_one (ds_set (i := 5) sc__law_shared.nd rfl (.inl rfl) (de_op o_mod (de_callT t_int (by rfl) W.n_int (by decide +kernel) (da_cons (de_op o_add (vv 5) de_int) da_nil)) (vv 2)))))
      (dss_one (ds_asg (de_op o_add (ve_ix (hu_of hr.toRoom) (vv 3) (vv 5) (fun _ _ => rfl)) de_int) (pg_sub (vv 3) (vv 5) (wi_set (hu_of hr.toRoom))) gl_sub)))))
    (dss_one (ds_ret (de_callT w_tuple (by rfl) W.n_tuple (by decide +kernel) (da_cons (vv 3) da_nil)))))), fun as AH Q h => rd__law_shared as AH Q h⟩, fun_dat F⟩
abbrev s__law_bent : Stmt := topS 65
abbrev N__law_bent : List Str := ["m", "graph", "at", "one", "other", "gives", "takes", "stock", "spot"]
abbrev P__law_bent : List Str := ["m", "graph"]
theorem sc__law_bent : FnScope N__law_bent P__law_bent (defScope s__law_bent) := ⟨rfl, rfl, rfl, by decide +kernel, rfl, by decide +kernel, by decide +kernel⟩
theorem ok__law_bent (W : Wd mg) (h__law_next : Has P w K mg base 1 "_law_next" P__law_next sp__law_next) {f : Addr} {fd : FuncData} (hf : mg "_law_bent" = some (.ref f)) (F : Fun K "_law_bent" "_law_bent" s__law_bent f fd) : Has P w K mg base 2 "_law_bent" P__law_bent sp__law_bent :=
  ⟨f, fd, hf, F.kp, F.binds (ps := P__law_bent) (fun _ _ _ _ _ _ us hl => match us, hl with | [_, _], _ => rfl), fun_ok F sc__law_bent (fun as A Q h => len__law_bent as A Q h) fun cdv A outer s H E hr => ⟨t__law_bent, (dss_cons (ds_if (vt_cmp (ci_eq hr.units) (ve_ix (hu_of hr.toRoom) (vv 1) de_int (fun _ _ => rfl)) (de_tup da_nil) (nomark _))
      (dss_one (ds_ret (vv 1)))
      dss_nil)
    (dss_cons (ds_set (i := 2) sc__law_bent.nd rfl (.inl rfl) (de_has h__law_next hr (by rfl) (da_cons (vv 0) (da_cons (de_callB w_len (by rfl) W.n_len (by decide +kernel) (da_cons (ve_ix (hu_of hr.toRoom) (vv 1) de_int (fun _ _ => rfl)) da_nil)) da_nil))))
    (dss_cons (ds_asg (ve_ix (hu_of hr.toRoom) (ve_ix (hu_of hr.toRoom) (vv 1) de_int (fun _ _ => rfl)) (vv 2) (fun _ _ => rfl)) (pg_tup rfl (pgs_cons (pg_name (i := 3) sc__law_bent.nd rfl (.inl rfl)) (pgs_cons (pg_name (i := 4) sc__law_bent.nd rfl (.inl rfl)) (pgs_cons (pg_name (i := 5) sc__law_bent.nd rfl (.inl rfl)) (pgs_cons (pg_name (i := 6) sc__law_bent.nd rfl (.inl rfl)) (pgs_cons (pg_name (i := 7) sc__law_bent.nd rfl (.inl rfl)) pgs_nil)))))) (gk_tup (gk_cons gl_name (gk_cons gl_name (gk_cons gl_name (gk_cons gl_name (gk_cons gl_name gk_nil)))))))
    (dss_cons (ds_set (i := 8) sc__law_bent.nd rfl (.inl rfl) (de_has h__law_next hr (by rfl) (da_cons (vv 0) (da_cons (de_callB w_len (by rfl) W.n_len (by decide +kernel) (da_cons (vv 5) da_nil)) da_nil))))
    (dss_cons (ds_set (i := 5) sc__law_bent.nd rfl (.inl rfl) (de_op o_add (de_op o_add (de_slice sv_all (vv 5) do_none (vo_some (vv 8))) (de_tup (da_cons (de_if (vt_cmp c_lt (ve_ix (hu_of hr.toRoom) (vv 5) (vv 8) (fun _ _ => rfl)) de_int (nomark _)) (de_op o_add (ve_ix (hu_of hr.toRoom) (vv 5) (vv 8) (fun _ _ => rfl)) de_int) de_int) da_nil))) (de_slice sv_all (vv 5) (vo_some (de_op o_add (vv 8) de_int)) do_none)))
    (dss_one (ds_ret (de_tup (da_cons (ve_ix (hu_of hr.toRoom) (vv 1) de_int (fun _ _ => rfl)) (da_cons (de_op o_add (de_op o_add (de_slice sv_all (ve_ix (hu_of hr.toRoom) (vv 1) de_int (fun _ _ => rfl)) do_none (vo_some (vv 2))) (de_tup (da_cons (de_tup (da_cons (vv 3) (da_cons (vv 4) (da_cons (vv 5) (da_cons (vv 6) (da_cons (vv 7) da_nil)))))) da_nil))) (de_slice sv_all (ve_ix (hu_of hr.toRoom) (vv 1) de_int (fun _ _ => rfl)) (vo_some (de_op o_add (vv 2) de_int)) do_none)) da_nil)))))))))), fun as AH Q h => rd__law_bent as AH Q h⟩, fun_dat F⟩
abbrev s__law_edge : Stmt := topS 67
abbrev N__law_edge : List Str := ["m", "names", "tasks", "lines", "k", "name"]
abbrev P__law_edge : List Str := ["m"]
theorem sc__law_edge : FnScope N__law_edge P__law_edge (defScope s__law_edge) := ⟨rfl, rfl, rfl, by decide +kernel, rfl, by decide +kernel, by decide +kernel⟩
theorem ok__law_edge (W : Wd mg) (h__law_next : Has P w K mg base 1 "_law_next" P__law_next sp__law_next) {f : Addr} {fd : FuncData} (hf : mg "_law_edge" = some (.ref f)) (F : Fun K "_law_edge" "_law_edge" s__law_edge f fd) : Has P w K mg base 2 "_law_edge" P__law_edge sp__law_edge :=
  ⟨f, fd, hf, F.kp, F.binds (ps := P__law_edge) (fun _ _ _ _ _ _ us hl => match us, hl with | [_], _ => rfl), fun_ok F sc__law_edge (fun as A Q h => len__law_edge as A Q h) fun cdv A outer s H E hr => ⟨t__law_edge, (dss_cons (lcs_v (ds_setLc (own := [("k", 4)]) (i := 1) rfl sc__law_edge.nd rfl rfl (sw_true rfl rfl rfl (by decide +kernel)) (dj_rg1 (by rfl) W.n_range (da_cons de_int da_nil)) (blkOk_by (own := [("k", 4)]) (N := N__law_edge) (sc := defScope s__law_edge) (by decide +kernel)) gl_name (wip_name (by decide)) mon_name (fun _ _ _ _ _ => (pg_name (i := 4) sc__law_edge.nd rfl (.inl rfl))) (fun _ _ _ _ _ => dts_nil) (fun _ _ _ _ _ => (de_op o_add (de_op o_add de_str (de_callT t_str (by rfl) W.n_str (by decide +kernel) (da_cons (vv 4) da_nil))) (de_slice sv_str (de_slice sv_str de_str do_none (vo_some (de_op o_add (de_op o_sub de_int (de_callB w_len (by rfl) W.n_len (by decide +kernel) (da_cons (de_callT t_str (by rfl) W.n_str (by decide +kernel) (da_cons (vv 4) da_nil)) da_nil))) de_int))) do_none (vo_some de_int))))))
    (dss_cons (ds_set (i := 2) sc__law_edge.nd rfl (.inl rfl) (de_callT w_tuple (by rfl) W.n_tuple (by decide +kernel) (da_cons (lc_v (de_lc (own := [("k", 4), ("name", 5)]) rfl sc__law_edge.nd (dj_enu (by rfl) W.n_enumerate (da_cons (vv 1) da_nil)) (blkOk_by (own := [("k", 4), ("name", 5)]) (N := N__law_edge) (sc := defScope s__law_edge) (by decide +kernel)) (gk_tup (gk_cons gl_name (gk_cons gl_name gk_nil))) (wip_tup (wip_cons mon_name (mon_cons mon_name mon_nil) (wip_name (by decide)) (wip_cons mon_name mon_nil (wip_name (by decide)) wip_nil))) (mon_tup (mon_cons mon_name (mon_cons mon_name mon_nil))) (fun _ _ _ _ _ => (pg_tup rfl (pgs_cons (pg_name (i := 4) sc__law_edge.nd rfl (.inl rfl)) (pgs_cons (pg_name (i := 5) sc__law_edge.nd rfl (.inl rfl)) pgs_nil)))) (fun _ _ _ _ _ => dts_nil) (fun _ _ _ _ _ => (de_tup (da_cons (vv 5) (da_cons (de_op o_mulT (de_tup (da_cons de_int da_nil)) (de_if (vt_cmp (ci_eq hr.units) (vv 4) de_int (nomark _)) de_int de_int)) da_nil)))))) da_nil)))
    (dss_cons (ds_set (i := 3) sc__law_edge.nd rfl (.inl rfl) (de_lst (da_cons (de_tup (da_cons (ve_ix (hu_of hr.toRoom) (vv 1) de_int (fun _ _ => rfl)) (da_cons (ve_ix (hu_of hr.toRoom) (vv 1) de_int (fun _ _ => rfl)) (da_cons (de_op o_mulT (de_tup (da_cons de_int da_nil)) de_int) (da_cons (de_tup (da_cons de_int da_nil)) (da_cons de_int da_nil)))))) (da_cons (de_tup (da_cons (ve_ix (hu_of hr.toRoom) (vv 1) de_int (fun _ _ => rfl)) (da_cons (ve_ix (hu_of hr.toRoom) (vv 1) de_int (fun _ _ => rfl)) (da_cons (de_tup (da_cons de_int da_nil)) (da_cons (de_tup (da_cons de_int da_nil)) (da_cons de_int da_nil)))))) da_nil))))
    (dss_cons (wd_for PassesOwn.never rfl (dj_rg1 (by rfl) W.n_range (da_cons de_int da_nil)) (pg_name (i := 4) sc__law_edge.nd rfl (.inl rfl)) gl_name
      (dss_one (ds_expr (we_ml PySem.F.slot_list_append PySem.F.type_list_append ni_app (vv 3) (da_cons (de_tup (da_cons (ve_ix (hu_of hr.toRoom) (vv 1) (de_op o_add de_int (de_has h__law_next hr (by rfl) (da_cons (vv 0) (da_cons de_int da_nil)))) (fun _ _ => rfl)) (da_cons (ve_ix (hu_of hr.toRoom) (vv 1) de_int (fun _ _ => rfl)) (da_cons (de_tup (da_cons de_int da_nil)) (da_cons (de_op o_add (de_op o_mulT (de_tup (da_cons de_int da_nil)) de_int) (de_tup (da_cons de_int da_nil))) (da_cons (de_has h__law_next hr (by rfl) (da_cons (vv 0) (da_cons de_int da_nil))) da_nil)))))) da_nil)))))
    (dss_one (ds_ret (de_tup (da_cons (vv 2) (da_cons (de_callT w_tuple (by rfl) W.n_tuple (by decide +kernel) (da_cons (vv 3) da_nil)) da_nil))))))))), fun as AH Q h => rd__law_edge as AH Q h⟩, fun_dat F⟩
abbrev s__law_wrongs : Stmt := topS 70
abbrev N__law_wrongs : List Str := ["graph", "tasks", "lines", "name", "count", "whole", "nought", "rows", "line", "one", "k"]
abbrev P__law_wrongs : List Str := ["graph"]
theorem sc__law_wrongs : FnScope N__law_wrongs P__law_wrongs (defScope s__law_wrongs) := ⟨rfl, rfl, rfl, by decide +kernel, rfl, by decide +kernel, by decide +kernel⟩
theorem ok__law_wrongs (W : Wd mg) (h__law_wrong_tasks : Has P w K mg base 1 "_law_wrong_tasks" P__law_wrong_tasks sp__law_wrong_tasks) (h__law_wrong_lines : Has P w K mg base 1 "_law_wrong_lines" P__law_wrong_lines sp__law_wrong_lines) {f : Addr} {fd : FuncData} (hf : mg "_law_wrongs" = some (.ref f)) (F : Fun K "_law_wrongs" "_law_wrongs" s__law_wrongs f fd) : Has P w K mg base 2 "_law_wrongs" P__law_wrongs sp__law_wrongs :=
  ⟨f, fd, hf, F.kp, F.binds (ps := P__law_wrongs) (fun _ _ _ _ _ _ us hl => match us, hl with | [_], _ => rfl), fun_ok F sc__law_wrongs (fun as A Q h => len__law_wrongs as A Q h) fun cdv A outer s H E hr => ⟨t__law_wrongs, (dss_cons (ds_asg (vv 0) (pg_tup rfl (pgs_cons (pg_name (i := 1) sc__law_wrongs.nd rfl (.inr rfl)) (pgs_cons (pg_name (i := 2) sc__law_wrongs.nd rfl (.inr rfl)) pgs_nil))) (gk_tup (gk_cons gl_name (gk_cons gl_name gk_nil))))
    (dss_cons (wd_par (i := 3) (j := 4) rfl sc__law_wrongs.nd rfl rfl (by decide) rfl rfl (da_cons (ve_ix (hu_of hr.toRoom) (ve_ix (hu_of hr.toRoom) (vv 1) de_int (fun _ _ => rfl)) de_int (fun _ _ => rfl)) (da_cons (de_callB w_len (by rfl) W.n_len (by decide +kernel) (da_cons (ve_ix (hu_of hr.toRoom) (ve_ix (hu_of hr.toRoom) (vv 1) de_int (fun _ _ => rfl)) de_int (fun _ _ => rfl)) da_nil)) da_nil)) rfl)
    (dss_cons (wd_par (i := 5) (j := 6) rfl sc__law_wrongs.nd rfl rfl (by decide) rfl rfl (da_cons (de_op o_mulT (de_tup (da_cons de_int da_nil)) (vv 4)) (da_cons (de_op o_mulT (de_tup (da_cons de_int da_nil)) (vv 4)) da_nil)) rfl)
    (dss_cons (lcs_v (ds_setLc (own := [("one", 9)]) (i := 7) rfl sc__law_wrongs.nd rfl rfl (sw_true rfl rfl rfl (by decide +kernel)) (dj_sq (de_tup (da_cons de_non (da_cons de_int (da_cons de_str (da_cons (de_tup da_nil) (da_cons (de_tup (da_cons (vv 1) da_nil)) (da_cons (de_tup (da_cons (vv 1) (da_cons (vv 2) (da_cons (de_tup da_nil) da_nil)))) (da_cons (de_fl (da_cons (vv 1) (da_cons (vv 2) da_nil))) (da_cons (de_tup (da_cons (de_tup da_nil) (da_cons (vv 2) da_nil))) (da_cons (de_tup (da_cons (de_callT w_list (by rfl) W.n_list (by decide +kernel) (da_cons (vv 1) da_nil)) (da_cons (vv 2) da_nil))) (da_cons (de_tup (da_cons (vv 1) (da_cons (de_callT w_list (by rfl) W.n_list (by decide +kernel) (da_cons (vv 2) da_nil)) da_nil))) da_nil)))))))))))) (blkOk_by (own := [("one", 9)]) (N := N__law_wrongs) (sc := defScope s__law_wrongs) (by decide +kernel)) gl_name (wip_name (by decide)) mon_name (fun _ _ _ _ _ => (pg_name (i := 9) sc__law_wrongs.nd rfl (.inl rfl))) (fun _ _ _ _ _ => dts_nil) (fun _ _ _ _ _ => (de_tup (da_cons (vv 9) (da_cons de_str da_nil))))))
    (dss_cons (ds_set (i := 7) sc__law_wrongs.nd rfl (.inl rfl) (de_op o_addL (vv 7) (lc_v (de_lc (own := [("one", 9)]) rfl sc__law_wrongs.nd (dj_sq (de_has h__law_wrong_tasks hr (by rfl) (da_cons de_str da_nil))) (blkOk_by (own := [("one", 9)]) (N := N__law_wrongs) (sc := defScope s__law_wrongs) (by decide +kernel)) gl_name (wip_name (by decide)) mon_name (fun _ _ _ _ _ => (pg_name (i := 9) sc__law_wrongs.nd rfl (.inl rfl))) (fun _ _ _ _ _ => dts_nil) (fun _ _ _ _ _ => (de_tup (da_cons (de_tup (da_cons (de_op o_add (vv 1) (de_tup (da_cons (vv 9) da_nil))) (da_cons (de_tup da_nil) da_nil))) (da_cons de_str da_nil))))))))
    (dss_cons (ds_set (i := 7) sc__law_wrongs.nd rfl (.inl rfl) (de_op o_addL (vv 7) (lc_v (de_lc (own := [("one", 9)]) rfl sc__law_wrongs.nd (dj_sq (de_has h__law_wrong_lines hr (by rfl) (da_cons (vv 3) da_nil))) (blkOk_by (own := [("one", 9)]) (N := N__law_wrongs) (sc := defScope s__law_wrongs) (by decide +kernel)) gl_name (wip_name (by decide)) mon_name (fun _ _ _ _ _ => (pg_name (i := 9) sc__law_wrongs.nd rfl (.inl rfl))) (fun _ _ _ _ _ => dts_nil) (fun _ _ _ _ _ => (de_tup (da_cons (de_tup (da_cons (vv 1) (da_cons (de_op o_add (vv 2) (de_tup (da_cons (vv 9) da_nil))) da_nil))) (da_cons de_str da_nil))))))))
    (dss_cons (ds_set (i := 7) sc__law_wrongs.nd rfl (.inl rfl) (de_op o_addL (vv 7) (de_fl (da_cons (de_tup (da_cons (de_tup (da_cons (de_callT w_tuple (by rfl) W.n_tuple (by decide +kernel) (da_cons (lc_v (de_lc (own := [("k", 10)]) rfl sc__law_wrongs.nd (dj_rg1 (by rfl) W.n_range (da_cons de_int da_nil)) (blkOk_by (own := [("k", 10)]) (N := N__law_wrongs) (sc := defScope s__law_wrongs) (by decide +kernel)) gl_name (wip_name (by decide)) mon_name (fun _ _ _ _ _ => (pg_name (i := 10) sc__law_wrongs.nd rfl (.inl rfl))) (fun _ _ _ _ _ => dts_nil) (fun _ _ _ _ _ => (de_tup (da_cons (de_op o_add de_str (de_callT t_str (by rfl) W.n_str (by decide +kernel) (da_cons (vv 10) da_nil))) (da_cons (de_tup (da_cons de_int da_nil)) da_nil)))))) da_nil)) (da_cons (de_tup da_nil) da_nil))) (da_cons de_str da_nil))) (da_cons (de_tup (da_cons (de_tup (da_cons (vv 1) (da_cons (de_op o_mulT (de_tup (da_cons (de_tup (da_cons (vv 3) (da_cons (vv 3) (da_cons (vv 5) (da_cons (vv 5) (da_cons de_int da_nil)))))) da_nil)) de_int) da_nil))) (da_cons de_str da_nil))) da_nil)))))
    (dss_cons (ds_set (i := 7) sc__law_wrongs.nd rfl (.inl rfl) (de_op o_addM (vv 7) (de_fl (da_cons (de_tup (da_cons (de_tup (da_cons (de_op o_add (vv 1) (de_tup (da_cons (ve_ix (hu_of hr.toRoom) (vv 1) de_int (fun _ _ => rfl)) da_nil))) (da_cons (vv 2) da_nil))) (da_cons de_str da_nil))) (da_cons (de_tup (da_cons (de_tup (da_cons (de_op o_add (de_op o_add (de_slice sv_all (vv 1) do_none (vo_some de_int)) (de_tup (da_cons (de_tup (da_cons (vv 3) (da_cons (de_tup (da_cons de_int (da_cons de_int da_nil))) da_nil))) da_nil))) (de_slice sv_all (vv 1) (vo_some de_int) do_none)) (da_cons (de_tup da_nil) da_nil))) (da_cons de_str da_nil))) da_nil)))))
    (dss_cons (wd_for PassesOwn.never rfl (dj_sq (de_tup (da_cons (de_tup (da_cons (vv 3) (da_cons de_str (da_cons (vv 5) (da_cons (de_tup (da_cons de_int da_nil)) (da_cons de_int da_nil)))))) (da_cons (de_tup (da_cons de_str (da_cons (vv 3) (da_cons (de_tup (da_cons de_int da_nil)) (da_cons (vv 5) (da_cons de_int da_nil)))))) (da_cons (de_tup (da_cons (vv 3) (da_cons (vv 3) (da_cons (de_op o_add (vv 5) (de_tup (da_cons de_int da_nil))) (da_cons (vv 5) (da_cons de_int da_nil)))))) (da_cons (de_tup (da_cons (vv 3) (da_cons (vv 3) (da_cons (vv 5) (da_cons (de_op o_add (vv 5) (de_tup (da_cons de_int da_nil))) (da_cons de_int da_nil)))))) da_nil)))))) (pg_name (i := 8) sc__law_wrongs.nd rfl (.inl rfl)) gl_name
      (dss_one (ds_expr (we_ml PySem.F.slot_list_append PySem.F.type_list_append ni_app (vv 7) (da_cons (de_tup (da_cons (de_tup (da_cons (vv 1) (da_cons (de_op o_add (vv 2) (de_tup (da_cons (vv 8) da_nil))) da_nil))) (da_cons de_str da_nil))) da_nil)))))
    (dss_cons (wd_for PassesOwn.never rfl (dj_sq (de_tup (da_cons (de_tup (da_cons (vv 3) (da_cons (vv 3) (da_cons (vv 6) (da_cons (vv 5) (da_cons de_int da_nil)))))) (da_cons (de_tup (da_cons (vv 3) (da_cons (vv 3) (da_cons (vv 5) (da_cons (vv 6) (da_cons de_int da_nil)))))) (da_cons (de_tup (da_cons (vv 3) (da_cons (vv 3) (da_cons (de_tup da_nil) (da_cons (vv 5) (da_cons de_int da_nil)))))) (da_cons (de_tup (da_cons (vv 3) (da_cons (vv 3) (da_cons (vv 5) (da_cons (de_tup da_nil) (da_cons de_int da_nil)))))) da_nil)))))) (pg_name (i := 8) sc__law_wrongs.nd rfl (.inl rfl)) gl_name
      (dss_one (ds_expr (we_ml PySem.F.slot_list_append PySem.F.type_list_append ni_app (vv 7) (da_cons (de_tup (da_cons (de_tup (da_cons (vv 1) (da_cons (de_op o_add (de_tup (da_cons (vv 8) da_nil)) (vv 2)) da_nil))) (da_cons de_str da_nil))) da_nil)))))
    (dss_cons (ds_set (i := 7) sc__law_wrongs.nd rfl (.inl rfl) (de_op o_addL (vv 7) (de_fl (da_cons (de_tup (da_cons (de_tup (da_cons (de_op o_add (vv 1) (de_tup (da_cons (ve_ix (hu_of hr.toRoom) (vv 1) de_int (fun _ _ => rfl)) da_nil))) (da_cons (de_tup (da_cons (de_tup (da_cons (vv 3) (da_cons de_str (da_cons (vv 5) (da_cons (de_tup (da_cons de_int da_nil)) (da_cons de_int da_nil)))))) da_nil)) da_nil))) (da_cons de_str da_nil))) (da_cons (de_tup (da_cons (de_tup (da_cons (de_op o_add (vv 1) (de_tup (da_cons (ve_ix (hu_of hr.toRoom) (vv 1) de_int (fun _ _ => rfl)) da_nil))) (da_cons (de_tup (da_cons de_non da_nil)) da_nil))) (da_cons de_str da_nil))) da_nil)))))
    (dss_one (ds_ret (de_op o_addL (vv 7) (de_fl (da_cons (de_tup (da_cons (de_tup (da_cons (vv 1) (da_cons (de_tup (da_cons (de_tup (da_cons (vv 3) (da_cons de_str (da_cons (vv 5) (da_cons (de_tup (da_cons de_int da_nil)) (da_cons de_int da_nil)))))) (da_cons (de_tup (da_cons (vv 3) (da_cons (vv 3) (da_cons (vv 5) (da_cons (vv 5) (da_cons (ve_neg de_int) da_nil)))))) da_nil))) da_nil))) (da_cons de_str da_nil))) da_nil)))))))))))))))), fun as AH Q h => rd__law_wrongs as AH Q h⟩, fun_dat F⟩
abbrev s_are_between : Stmt := topS 13
abbrev N_are_between : List Str := ["thing", "least", "most", "number"]
abbrev P_are_between : List Str := ["thing", "least", "most"]
theorem sc_are_between : FnScope N_are_between P_are_between (defScope s_are_between) := ⟨rfl, rfl, rfl, by decide +kernel, rfl, by decide +kernel, by decide +kernel⟩
theorem ok_are_between (W : Wd mg) (h_is_between : Has P w K mg base 2 "is_between" P_is_between sp_is_between) {f : Addr} {fd : FuncData} (hf : mg "are_between" = some (.ref f)) (F : Fun K "are_between" "are_between" s_are_between f fd) : Has P w K mg base 3 "are_between" P_are_between sp_are_between :=
  ⟨f, fd, hf, F.kp, F.binds (ps := P_are_between) (fun _ _ _ _ _ _ us hl => match us, hl with | [_, _, _], _ => rfl), fun_ok F sc_are_between (fun as A Q h => len_are_between as A Q h) fun cdv A outer s H E hr => ⟨t_are_between, (dss_one (ds_ret (ve_and (de_callB w_isi (by rfl) W.n_isinstance (by decide +kernel) (da_cons (vv 0) (da_cons (de_ty (by rfl) W.n_tuple (by decide +kernel)) da_nil))) (de_one (de_callB (w_all rfl) (by rfl) W.n_all (by decide +kernel) (da_cons (lc_v (de_lc (own := [("number", 3)]) rfl sc_are_between.nd (dj_sq (vv 0)) (blkOk_by (own := [("number", 3)]) (N := N_are_between) (sc := defScope s_are_between) (by decide +kernel)) gl_name (wip_name (by decide)) mon_name (fun _ _ _ _ _ => (pg_name (i := 3) sc_are_between.nd rfl (.inl rfl))) (fun _ _ _ _ _ => dts_nil) (fun _ _ _ _ _ => (de_has h_is_between hr (by rfl) (da_cons (vv 3) (da_cons (vv 1) (da_cons (vv 2) da_nil))))))) da_nil)))))), fun as AH Q h => rd_are_between as AH Q h⟩, fun_dat F⟩
theorem okg_are_between (W : Wd mg) (hg_is_between : Has P w K mg base 2 "is_between" P_is_between sg_is_between) {f : Addr} {fd : FuncData} (hf : mg "are_between" = some (.ref f)) (F : Fun K "are_between" "are_between" s_are_between f fd) : Has P w K mg base 3 "are_between" P_are_between sg_are_between :=
  ⟨f, fd, hf, F.kp, F.binds (ps := P_are_between) (fun _ _ _ _ _ _ us hl => match us, hl with | [_, _, _], _ => rfl), fun_ok F sc_are_between (fun as A Q h => leng_are_between as A Q h) fun cdv A outer s H E hr => ⟨tg_are_between, (dss_one (ds_ret (ve_and (de_callB w_isi (by rfl) W.n_isinstance (by decide +kernel) (da_cons (vv 0) (da_cons (de_ty (by rfl) W.n_tuple (by decide +kernel)) da_nil))) (de_one (de_callB (w_all rfl) (by rfl) W.n_all (by decide +kernel) (da_cons (lc_v (de_lc (own := [("number", 3)]) rfl sc_are_between.nd (dj_sq (vv 0)) (blkOk_by (own := [("number", 3)]) (N := N_are_between) (sc := defScope s_are_between) (by decide +kernel)) gl_name (wip_name (by decide)) mon_name (fun _ _ _ _ _ => (pg_name (i := 3) sc_are_between.nd rfl (.inl rfl))) (fun _ _ _ _ _ => dts_nil) (fun _ _ _ _ _ => (de_has hg_is_between hr (by rfl) (da_cons (vv 3) (da_cons (vv 1) (da_cons (vv 2) da_nil))))))) da_nil)))))), fun as AH Q h => rg_are_between as AH Q h⟩, fun_dat F⟩
abbrev s_need_number : Stmt := topS 15
abbrev N_need_number : List Str := ["thing", "least", "most"]
abbrev P_need_number : List Str := ["thing", "least", "most"]
theorem sc_need_number : FnScope N_need_number P_need_number (defScope s_need_number) := ⟨rfl, rfl, rfl, by decide +kernel, rfl, by decide +kernel, by decide +kernel⟩
theorem ok_need_number (W : Wd mg) (h_is_between : Has P w K mg base 2 "is_between" P_is_between sp_is_between) {f : Addr} {fd : FuncData} (hf : mg "need_number" = some (.ref f)) (F : Fun K "need_number" "need_number" s_need_number f fd) : Has P w K mg base 3 "need_number" P_need_number sp_need_number :=
  ⟨f, fd, hf, F.kp, F.binds (ps := P_need_number) (fun _ _ _ _ _ _ us hl => match us, hl with | [_, _, _], _ => rfl), fun_ok F sc_need_number (fun as A Q h => len_need_number as A Q h) fun cdv A outer s H E hr => ⟨t_need_number, (dss_one (ds_if (dt_not (vt_tru (de_has h_is_between hr (by rfl) (da_cons (vv 0) (da_cons (vv 1) (da_cons (vv 2) da_nil))))))
      (dss_one ds_never)
      dss_nil)), fun as AH Q h => rd_need_number as AH Q h⟩, fun_dat F⟩
theorem okx_need_number (W : Wd mg) (hg_is_between : Has P w K mg base 2 "is_between" P_is_between sg_is_between) (e_BadNumber : ErrOk P w K mg base "BadNumber" "value") {f : Addr} {fd : FuncData} (hf : mg "need_number" = some (.ref f)) (F : Fun K "need_number" "need_number" s_need_number f fd) : HasX P w K mg base 3 "need_number" P_need_number spb_need_number :=
  ⟨f, fd, hf, F.kp, F.binds (ps := P_need_number) (fun _ _ _ _ _ _ us hl => match us, hl with | [_, _, _], _ => rfl), fun_okX F sc_need_number (fun as A Q E' h => lnx_need_number as A Q E' h) fun cdv A outer s H E hr => ⟨tx_need_number, (dss_one (ds_if (dt_not (vt_tru (de_has hg_is_between hr (by rfl) (da_cons (vv 0) (da_cons (vv 1) (da_cons (vv 2) da_nil))))))
      (dss_one (ds_raise e_BadNumber rfl (room2 hr) (by rfl) (vv 0)))
      dss_nil)), fun as AH Q E' h => rdx_need_number as AH Q E' h⟩, fun_dat F⟩
abbrev s__law_line : Stmt := topS 62
abbrev N__law_line : List Str := ["m", "tasks", "laps", "one", "other", "common", "gives", "takes", "times", "flow", "stock"]
abbrev P__law_line : List Str := ["m", "tasks", "laps", "one", "other"]
theorem sc__law_line : FnScope N__law_line P__law_line (defScope s__law_line) := ⟨rfl, rfl, rfl, by decide +kernel, rfl, by decide +kernel, by decide +kernel⟩
theorem ok__law_line (W : Wd mg) (h__law_gcd : Has P w K mg base 1 "_law_gcd" P__law_gcd sp__law_gcd) (h__law_next : Has P w K mg base 1 "_law_next" P__law_next sp__law_next) (h__law_of : Has P w K mg base 2 "_law_of" P__law_of sp__law_of) (h__law_shared : Has P w K mg base 2 "_law_shared" P__law_shared sp__law_shared) {f : Addr} {fd : FuncData} (hf : mg "_law_line" = some (.ref f)) (F : Fun K "_law_line" "_law_line" s__law_line f fd) : Has P w K mg base 3 "_law_line" P__law_line sp__law_line :=
  ⟨f, fd, hf, F.kp, F.binds (ps := P__law_line) (fun _ _ _ _ _ _ us hl => match us, hl with | [_, _, _, _, _], _ => rfl), fun_ok F sc__law_line (fun as A Q h => len__law_line as A Q h) fun cdv A outer s H E hr => ⟨t__law_line, (dss_cons (ds_set (i := 5) sc__law_line.nd rfl (.inl rfl) (de_has h__law_gcd hr (by rfl) (da_cons (ve_ix (hu_of hr.toRoom) (vv 2) (vv 3) (fun _ _ => rfl)) (da_cons (ve_ix (hu_of hr.toRoom) (vv 2) (vv 4) (fun _ _ => rfl)) da_nil))))
    (dss_cons (wd_par (i := 6) (j := 7) rfl sc__law_line.nd rfl rfl (by decide) rfl rfl (da_cons (de_op o_fdiv (ve_ix (hu_of hr.toRoom) (vv 2) (vv 4) (fun _ _ => rfl)) (vv 5)) (da_cons (de_op o_fdiv (ve_ix (hu_of hr.toRoom) (vv 2) (vv 3) (fun _ _ => rfl)) (vv 5)) da_nil)) rfl)
    (dss_cons (ds_set (i := 8) sc__law_line.nd rfl (.inl rfl) (de_op o_add de_int (de_has h__law_next hr (by rfl) (da_cons (vv 0) (da_cons (de_callB (b_min rfl) (by rfl) W.n_min (by decide +kernel) (da_cons de_int (da_cons (de_op o_fdiv (de_op o_mulT de_int (de_callB w_len (by rfl) W.n_len (by decide +kernel) (da_cons (ve_ix (hu_of hr.toRoom) (ve_ix (hu_of hr.toRoom) (vv 1) (vv 3) (fun _ _ => rfl)) de_int (fun _ _ => rfl)) da_nil))) (vv 6)) (da_cons (de_op o_fdiv (de_op o_mulT de_int (de_callB w_len (by rfl) W.n_len (by decide +kernel) (da_cons (ve_ix (hu_of hr.toRoom) (ve_ix (hu_of hr.toRoom) (vv 1) (vv 4) (fun _ _ => rfl)) de_int (fun _ _ => rfl)) da_nil))) (vv 7)) da_nil)))) da_nil)))))
    (dss_cons (ds_set (i := 9) sc__law_line.nd rfl (.inl rfl) (de_op o_mulT (de_op o_mulT (vv 8) (vv 6)) (ve_ix (hu_of hr.toRoom) (vv 2) (vv 3) (fun _ _ => rfl))))
    (dss_cons (ds_set (i := 10) sc__law_line.nd rfl (.inl rfl) (de_has h__law_of hr (by rfl) (da_cons (vv 0) (da_cons (de_fl (da_cons de_int (da_cons de_int (da_cons (de_has h__law_next hr (by rfl) (da_cons (vv 0) (da_cons (de_op o_add (vv 9) de_int) da_nil))) (da_cons (vv 9) (da_cons (de_op o_add (vv 9) (de_has h__law_next hr (by rfl) (da_cons (vv 0) (da_cons (de_op o_add (vv 9) de_int) da_nil)))) da_nil)))))) da_nil))))
    (dss_cons (wd_par (i := 6) (j := 7) rfl sc__law_line.nd rfl rfl (by decide) rfl rfl (da_cons (de_has h__law_shared hr (by rfl) (da_cons (vv 0) (da_cons (de_op o_mulT (vv 8) (vv 6)) (da_cons (de_callB w_len (by rfl) W.n_len (by decide +kernel) (da_cons (ve_ix (hu_of hr.toRoom) (ve_ix (hu_of hr.toRoom) (vv 1) (vv 3) (fun _ _ => rfl)) de_int (fun _ _ => rfl)) da_nil)) da_nil)))) (da_cons (de_has h__law_shared hr (by rfl) (da_cons (vv 0) (da_cons (de_op o_mulT (vv 8) (vv 7)) (da_cons (de_callB w_len (by rfl) W.n_len (by decide +kernel) (da_cons (ve_ix (hu_of hr.toRoom) (ve_ix (hu_of hr.toRoom) (vv 1) (vv 4) (fun _ _ => rfl)) de_int (fun _ _ => rfl)) da_nil)) da_nil)))) da_nil)) rfl)
    (dss_one (ds_ret (de_tup (da_cons (ve_ix (hu_of hr.toRoom) (ve_ix (hu_of hr.toRoom) (vv 1) (vv 3) (fun _ _ => rfl)) de_int (fun _ _ => rfl)) (da_cons (ve_ix (hu_of hr.toRoom) (ve_ix (hu_of hr.toRoom) (vv 1) (vv 4) (fun _ _ => rfl)) de_int (fun _ _ => rfl)) (da_cons (vv 6) (da_cons (vv 7) (da_cons (vv 10) da_nil)))))))))))))), fun as AH Q h => rd__law_line as AH Q h⟩, fun_dat F⟩
abbrev s__law_tasks : Stmt := topS 63
abbrev N__law_tasks : List Str := ["m", "many", "phases", "name", "k"]
abbrev P__law_tasks : List Str := ["m", "many", "phases"]
theorem sc__law_tasks : FnScope N__law_tasks P__law_tasks (defScope s__law_tasks) := ⟨rfl, rfl, rfl, by decide +kernel, rfl, by decide +kernel, by decide +kernel⟩
theorem ok__law_tasks (W : Wd mg) (h__law_names : Has P w K mg base 2 "_law_names" P__law_names sp__law_names) (h__law_next : Has P w K mg base 1 "_law_next" P__law_next sp__law_next) {f : Addr} {fd : FuncData} (hf : mg "_law_tasks" = some (.ref f)) (F : Fun K "_law_tasks" "_law_tasks" s__law_tasks f fd) : Has P w K mg base 3 "_law_tasks" P__law_tasks sp__law_tasks :=
  ⟨f, fd, hf, F.kp, F.binds (ps := P__law_tasks) (fun _ _ _ _ _ _ us hl => match us, hl with | [_, _, _], _ => rfl), fun_ok F sc__law_tasks (fun as A Q h => len__law_tasks as A Q h) fun cdv A outer s H E hr => ⟨t__law_tasks, (dss_one (ds_ret (de_callT w_tuple (by rfl) W.n_tuple (by decide +kernel) (da_cons (lc_v (de_lc (own := [("name", 3)]) rfl sc__law_tasks.nd (dj_sq (de_has h__law_names hr (by rfl) (da_cons (vv 0) (da_cons (vv 1) da_nil)))) (blkOk_by (own := [("name", 3)]) (N := N__law_tasks) (sc := defScope s__law_tasks) (by decide +kernel)) gl_name (wip_name (by decide)) mon_name (fun _ _ _ _ _ => (pg_name (i := 3) sc__law_tasks.nd rfl (.inl rfl))) (fun _ _ _ _ _ => dts_nil) (fun _ _ _ _ _ => (de_tup (da_cons (vv 3) (da_cons (de_callT w_tuple (by rfl) W.n_tuple (by decide +kernel) (da_cons (lc_v (de_lc (own := [("k", 4)]) rfl sc__law_tasks.nd (dj_rg1 (by rfl) W.n_range (da_cons (de_op o_add de_int (de_has h__law_next hr (by rfl) (da_cons (vv 0) (da_cons (vv 2) da_nil)))) da_nil)) (blkOk_by (own := [("k", 4)]) (by kernel_rfl)) gl_name (wip_name (by decide)) mon_name (fun _ _ _ _ _ => (pg_name (i := 4) sc__law_tasks.nd rfl (.inl rfl))) (fun _ _ _ _ _ => dts_nil) (fun _ _ _ _ _ => (de_op o_add de_int (de_has h__law_next hr (by rfl) (da_cons (vv 0) (da_cons de_int da_nil))))))) da_nil)) da_nil)))))) da_nil)))), fun as AH Q h => rd__law_tasks as AH Q h⟩, fun_dat F⟩
abbrev s_is_task : Stmt := topS 24
abbrev N_is_task : List Str := ["thing"]
abbrev P_is_task : List Str := ["thing"]
theorem sc_is_task : FnScope N_is_task P_is_task (defScope s_is_task) := ⟨rfl, rfl, rfl, by decide +kernel, rfl, by decide +kernel, by decide +kernel⟩
theorem ok_is_task (W : Wd mg) (h_is_name : Has P w K mg base 1 "is_name" P_is_name sp_is_name) (h_is_tuple_of : Has P w K mg base 1 "is_tuple_of" P_is_tuple_of sp_is_tuple_of) (h_are_between : Has P w K mg base 3 "are_between" P_are_between sp_are_between) {f : Addr} {fd : FuncData} (hf : mg "is_task" = some (.ref f)) (F : Fun K "is_task" "is_task" s_is_task f fd) : Has P w K mg base 4 "is_task" P_is_task sp_is_task :=
  ⟨f, fd, hf, F.kp, F.binds (ps := P_is_task) (fun _ _ _ _ _ _ us hl => match us, hl with | [_], _ => rfl), fun_ok F sc_is_task (fun as A Q h => len_is_task as A Q h) fun cdv A outer s H E hr => ⟨t_is_task, (dss_cons (ds_if (DW.dt (dw_or (dt_not (vt_tru (de_has h_is_tuple_of hr (by rfl) (da_cons (vv 0) (da_cons de_int (da_cons de_int da_nil)))))) (dw_or1 (dt_not (vt_tru (de_has h_is_name hr (by rfl) (da_cons (ve_ix (hu_of hr.toRoom) (vv 0) de_int (fun _ _ => rfl)) da_nil)))))))
      (dss_one (ds_ret de_bl))
      dss_nil)
    (dss_one (ds_ret (ve_and (de_has h_is_tuple_of hr (by rfl) (da_cons (ve_ix (hu_of hr.toRoom) (vv 0) de_int (fun _ _ => rfl)) (da_cons de_int (da_cons (de_globEI (by rfl) W.c_MOST_PHASES) da_nil)))) (de_one (de_has h_are_between hr (by rfl) (da_cons (ve_ix (hu_of hr.toRoom) (vv 0) de_int (fun _ _ => rfl)) (da_cons de_int (da_cons de_int da_nil))))))))), fun as AH Q h => rd_is_task as AH Q h⟩, fun_dat F⟩
theorem okg_is_task (W : Wd mg) (hg_is_name : Has P w K mg base 1 "is_name" P_is_name sg_is_name) (hg_is_tuple_of : Has P w K mg base 1 "is_tuple_of" P_is_tuple_of sg_is_tuple_of) (hg_are_between : Has P w K mg base 3 "are_between" P_are_between sg_are_between) {f : Addr} {fd : FuncData} (hf : mg "is_task" = some (.ref f)) (F : Fun K "is_task" "is_task" s_is_task f fd) : Has P w K mg base 4 "is_task" P_is_task sg_is_task :=
  ⟨f, fd, hf, F.kp, F.binds (ps := P_is_task) (fun _ _ _ _ _ _ us hl => match us, hl with | [_], _ => rfl), fun_ok F sc_is_task (fun as A Q h => leng_is_task as A Q h) fun cdv A outer s H E hr => ⟨tg_is_task, (dss_cons (ds_if (DW.dt (dw_or (dt_not (vt_tru (de_has hg_is_tuple_of hr (by rfl) (da_cons (vv 0) (da_cons de_int (da_cons de_int da_nil)))))) (dw_or1 (dt_not (vt_tru (de_has hg_is_name hr (by rfl) (da_cons (ve_ix (hu_of hr.toRoom) (vv 0) de_int (fun _ _ => rfl)) da_nil)))))))
      (dss_one (ds_ret de_bl))
      dss_nil)
    (dss_one (ds_ret (ve_and (de_has hg_is_tuple_of hr (by rfl) (da_cons (ve_ix (hu_of hr.toRoom) (vv 0) de_int (fun _ _ => rfl)) (da_cons de_int (da_cons (de_globEI (by rfl) W.c_MOST_PHASES) da_nil)))) (de_one (de_has hg_are_between hr (by rfl) (da_cons (ve_ix (hu_of hr.toRoom) (vv 0) de_int (fun _ _ => rfl)) (da_cons de_int (da_cons de_int da_nil))))))))), fun as AH Q h => rg_is_task as AH Q h⟩, fun_dat F⟩
abbrev s_is_line : Stmt := topS 25
abbrev N_is_line : List Str := ["thing"]
abbrev P_is_line : List Str := ["thing"]
theorem sc_is_line : FnScope N_is_line P_is_line (defScope s_is_line) := ⟨rfl, rfl, rfl, by decide +kernel, rfl, by decide +kernel, by decide +kernel⟩
theorem ok_is_line (W : Wd mg) (h_is_name : Has P w K mg base 1 "is_name" P_is_name sp_is_name) (h_is_tuple_of : Has P w K mg base 1 "is_tuple_of" P_is_tuple_of sp_is_tuple_of) (h_are_between : Has P w K mg base 3 "are_between" P_are_between sp_are_between) (h_is_between : Has P w K mg base 2 "is_between" P_is_between sp_is_between) {f : Addr} {fd : FuncData} (hf : mg "is_line" = some (.ref f)) (F : Fun K "is_line" "is_line" s_is_line f fd) : Has P w K mg base 4 "is_line" P_is_line sp_is_line :=
  ⟨f, fd, hf, F.kp, F.binds (ps := P_is_line) (fun _ _ _ _ _ _ us hl => match us, hl with | [_], _ => rfl), fun_ok F sc_is_line (fun as A Q h => len_is_line as A Q h) fun cdv A outer s H E hr => ⟨t_is_line, (dss_cons (ds_if (DW.dt (dw_or (dt_not (vt_tru (de_has h_is_tuple_of hr (by rfl) (da_cons (vv 0) (da_cons de_int (da_cons de_int da_nil)))))) (dw_or (dt_not (vt_tru (de_has h_is_name hr (by rfl) (da_cons (ve_ix (hu_of hr.toRoom) (vv 0) de_int (fun _ _ => rfl)) da_nil)))) (dw_or1 (dt_not (vt_tru (de_has h_is_name hr (by rfl) (da_cons (ve_ix (hu_of hr.toRoom) (vv 0) de_int (fun _ _ => rfl)) da_nil))))))))
      (dss_one (ds_ret de_bl))
      dss_nil)
    (dss_cons (ds_if (DW.dt (dw_or (dt_not (vt_tru (de_has h_are_between hr (by rfl) (da_cons (ve_ix (hu_of hr.toRoom) (vv 0) de_int (fun _ _ => rfl)) (da_cons de_int (da_cons de_int da_nil)))))) (dw_or1 (dt_not (vt_tru (de_has h_are_between hr (by rfl) (da_cons (ve_ix (hu_of hr.toRoom) (vv 0) de_int (fun _ _ => rfl)) (da_cons de_int (da_cons de_int da_nil)))))))))
      (dss_one (ds_ret de_bl))
      dss_nil)
    (dss_one (ds_ret (de_has h_is_between hr (by rfl) (da_cons (ve_ix (hu_of hr.toRoom) (vv 0) de_int (fun _ _ => rfl)) (da_cons de_int (da_cons (de_globEI (by rfl) W.c_MOST_STOCK) da_nil)))))))), fun as AH Q h => rd_is_line as AH Q h⟩, fun_dat F⟩
theorem okg_is_line (W : Wd mg) (hg_is_name : Has P w K mg base 1 "is_name" P_is_name sg_is_name) (hg_is_tuple_of : Has P w K mg base 1 "is_tuple_of" P_is_tuple_of sg_is_tuple_of) (hg_are_between : Has P w K mg base 3 "are_between" P_are_between sg_are_between) (hg_is_between : Has P w K mg base 2 "is_between" P_is_between sg_is_between) {f : Addr} {fd : FuncData} (hf : mg "is_line" = some (.ref f)) (F : Fun K "is_line" "is_line" s_is_line f fd) : Has P w K mg base 4 "is_line" P_is_line sg_is_line :=
  ⟨f, fd, hf, F.kp, F.binds (ps := P_is_line) (fun _ _ _ _ _ _ us hl => match us, hl with | [_], _ => rfl), fun_ok F sc_is_line (fun as A Q h => leng_is_line as A Q h) fun cdv A outer s H E hr => ⟨tg_is_line, (dss_cons (ds_if (DW.dt (dw_or (dt_not (vt_tru (de_has hg_is_tuple_of hr (by rfl) (da_cons (vv 0) (da_cons de_int (da_cons de_int da_nil)))))) (dw_or (dt_not (vt_tru (de_has hg_is_name hr (by rfl) (da_cons (ve_ix (hu_of hr.toRoom) (vv 0) de_int (fun _ _ => rfl)) da_nil)))) (dw_or1 (dt_not (vt_tru (de_has hg_is_name hr (by rfl) (da_cons (ve_ix (hu_of hr.toRoom) (vv 0) de_int (fun _ _ => rfl)) da_nil))))))))
      (dss_one (ds_ret de_bl))
      dss_nil)
    (dss_cons (ds_if (DW.dt (dw_or (dt_not (vt_tru (de_has hg_are_between hr (by rfl) (da_cons (ve_ix (hu_of hr.toRoom) (vv 0) de_int (fun _ _ => rfl)) (da_cons de_int (da_cons de_int da_nil)))))) (dw_or1 (dt_not (vt_tru (de_has hg_are_between hr (by rfl) (da_cons (ve_ix (hu_of hr.toRoom) (vv 0) de_int (fun _ _ => rfl)) (da_cons de_int (da_cons de_int da_nil)))))))))
      (dss_one (ds_ret de_bl))
      dss_nil)
    (dss_one (ds_ret (de_has hg_is_between hr (by rfl) (da_cons (ve_ix (hu_of hr.toRoom) (vv 0) de_int (fun _ _ => rfl)) (da_cons de_int (da_cons (de_globEI (by rfl) W.c_MOST_STOCK) da_nil)))))))), fun as AH Q h => rg_is_line as AH Q h⟩, fun_dat F⟩
abbrev s_look_at_state : Stmt := topS 32
abbrev N_look_at_state : List Str := ["graph", "state", "phase", "task"]
abbrev P_look_at_state : List Str := ["graph", "state"]
theorem sc_look_at_state : FnScope N_look_at_state P_look_at_state (defScope s_look_at_state) := ⟨rfl, rfl, rfl, by decide +kernel, rfl, by decide +kernel, by decide +kernel⟩
theorem ok_look_at_state (W : Wd mg) (h_are_between : Has P w K mg base 3 "are_between" P_are_between sp_are_between) (h_is_tuple_of : Has P w K mg base 1 "is_tuple_of" P_is_tuple_of sp_is_tuple_of) {f : Addr} {fd : FuncData} (hf : mg "look_at_state" = some (.ref f)) (F : Fun K "look_at_state" "look_at_state" s_look_at_state f fd) : Has P w K mg base 4 "look_at_state" P_look_at_state sp_look_at_state :=
  ⟨f, fd, hf, F.kp, F.binds (ps := P_look_at_state) (fun _ _ _ _ _ _ us hl => match us, hl with | [_, _], _ => rfl), fun_ok F sc_look_at_state (fun as A Q h => len_look_at_state as A Q h) fun cdv A outer s H E hr => ⟨t_look_at_state, (dss_cons (ds_if (DW.dt (dw_or (dt_not (vt_tru (de_has h_is_tuple_of hr (by rfl) (da_cons (vv 1) (da_cons de_int (da_cons de_int da_nil)))))) (dw_or1 (dt_not (vt_tru (de_has h_are_between hr (by rfl) (da_cons (ve_ix (hu_of hr.toRoom) (vv 1) de_int (fun _ _ => rfl)) (da_cons de_int (da_cons (de_op o_sub (de_globEI (by rfl) W.c_MOST_PHASES) de_int) da_nil)))))))))
      (dss_one ds_never)
      dss_nil)
    (dss_cons (ds_if (dt_not (vt_tru (de_has h_are_between hr (by rfl) (da_cons (ve_ix (hu_of hr.toRoom) (vv 1) de_int (fun _ _ => rfl)) (da_cons de_int (da_cons (de_globEI (by rfl) W.c_MOST_HELD) da_nil))))))
      (dss_one ds_never)
      dss_nil)
    (dss_cons (ds_if (vt_cmp (ci_ne hr.units) (de_callB w_len (by rfl) W.n_len (by decide +kernel) (da_cons (ve_ix (hu_of hr.toRoom) (vv 1) de_int (fun _ _ => rfl)) da_nil)) (de_callB w_len (by rfl) W.n_len (by decide +kernel) (da_cons (ve_ix (hu_of hr.toRoom) (vv 0) de_int (fun _ _ => rfl)) da_nil)) (nomark _))
      (dss_one ds_never)
      dss_nil)
    (dss_cons (ds_if (dt_not (vt_tru (de_callB (w_all rfl) (by rfl) W.n_all (by decide +kernel) (da_cons (lc_v (de_lc (own := [("phase", 2), ("task", 3)]) rfl sc_look_at_state.nd (di_zip (by rfl) W.n_zip (da_cons (ve_ix (hu_of hr.toRoom) (vv 1) de_int (fun _ _ => rfl)) (da_cons (ve_ix (hu_of hr.toRoom) (vv 0) de_int (fun _ _ => rfl)) da_nil))) (blkOk_by (own := [("phase", 2), ("task", 3)]) (N := N_look_at_state) (sc := defScope s_look_at_state) (by decide +kernel)) (gk_tup (gk_cons gl_name (gk_cons gl_name gk_nil))) (wip_tup (wip_cons mon_name (mon_cons mon_name mon_nil) (wip_name (by decide)) (wip_cons mon_name mon_nil (wip_name (by decide)) wip_nil))) (mon_tup (mon_cons mon_name (mon_cons mon_name mon_nil))) (fun _ _ _ _ _ => (pg_tup rfl (pgs_cons (pg_name (i := 2) sc_look_at_state.nd rfl (.inl rfl)) (pgs_cons (pg_name (i := 3) sc_look_at_state.nd rfl (.inl rfl)) pgs_nil)))) (fun _ _ _ _ _ => dts_nil) (fun _ _ _ _ _ => (de_cmp c_lt (vv 2) (de_callB w_len (by rfl) W.n_len (by decide +kernel) (da_cons (ve_ix (hu_of hr.toRoom) (vv 3) de_int (fun _ _ => rfl)) da_nil)) (nomark _))))) da_nil))))
      (dss_one ds_never)
      dss_nil)
    (dss_one (ds_if (vt_cmp (ci_ne hr.units) (de_callB w_len (by rfl) W.n_len (by decide +kernel) (da_cons (ve_ix (hu_of hr.toRoom) (vv 1) de_int (fun _ _ => rfl)) da_nil)) (de_callB w_len (by rfl) W.n_len (by decide +kernel) (da_cons (ve_ix (hu_of hr.toRoom) (vv 0) de_int (fun _ _ => rfl)) da_nil)) (nomark _))
      (dss_one ds_never)
      dss_nil)))))), fun as AH Q h => rd_look_at_state as AH Q h⟩, fun_dat F⟩
theorem okx_look_at_state (W : Wd mg) (hg_are_between : Has P w K mg base 3 "are_between" P_are_between sg_are_between) (hg_is_tuple_of : Has P w K mg base 1 "is_tuple_of" P_is_tuple_of sg_is_tuple_of) (e_BadState : ErrOk P w K mg base "BadState" "place") {f : Addr} {fd : FuncData} (hf : mg "look_at_state" = some (.ref f)) (F : Fun K "look_at_state" "look_at_state" s_look_at_state f fd) : HasX P w K mg base 4 "look_at_state" P_look_at_state spb_look_at_state :=
  ⟨f, fd, hf, F.kp, F.binds (ps := P_look_at_state) (fun _ _ _ _ _ _ us hl => match us, hl with | [_, _], _ => rfl), fun_okX F sc_look_at_state (fun as A Q E' h => lnx_look_at_state as A Q E' h) fun cdv A outer s H E hr => ⟨tx_look_at_state, (dss_cons (ds_if (DW.dt (dw_or (dt_not (vt_tru (de_has hg_is_tuple_of hr (by rfl) (da_cons (vv 1) (da_cons de_int (da_cons de_int da_nil)))))) (dw_or1 (dt_not (vt_tru (de_has hg_are_between hr (by rfl) (da_cons (ve_ix (hu_of hr.toRoom) (vv 1) de_int (fun _ _ => rfl)) (da_cons de_int (da_cons (de_op o_sub (de_globEI (by rfl) W.c_MOST_PHASES) de_int) da_nil)))))))))
      (dss_one (ds_raise e_BadState rfl (room2 hr) (by rfl) de_str))
      dss_nil)
    (dss_cons (ds_if (dt_not (vt_tru (de_has hg_are_between hr (by rfl) (da_cons (ve_ix (hu_of hr.toRoom) (vv 1) de_int (fun _ _ => rfl)) (da_cons de_int (da_cons (de_globEI (by rfl) W.c_MOST_HELD) da_nil))))))
      (dss_one (ds_raise e_BadState rfl (room2 hr) (by rfl) de_str))
      dss_nil)
    (dss_cons (ds_if (vt_cmp (ci_ne hr.units) (de_callB w_len (by rfl) W.n_len (by decide +kernel) (da_cons (ve_ix (hu_of hr.toRoom) (vv 1) de_int (fun _ _ => rfl)) da_nil)) (de_callB w_len (by rfl) W.n_len (by decide +kernel) (da_cons (ve_ix (hu_of hr.toRoom) (vv 0) de_int (fun _ _ => rfl)) da_nil)) (nomark _))
      (dss_one (ds_raise e_BadState rfl (room2 hr) (by rfl) de_str))
      dss_nil)
    (dss_cons (ds_if (dt_not (vt_tru (de_callB (w_all rfl) (by rfl) W.n_all (by decide +kernel) (da_cons (lc_v (de_lc (own := [("phase", 2), ("task", 3)]) rfl sc_look_at_state.nd (di_zip (by rfl) W.n_zip (da_cons (ve_ix (hu_of hr.toRoom) (vv 1) de_int (fun _ _ => rfl)) (da_cons (ve_ix (hu_of hr.toRoom) (vv 0) de_int (fun _ _ => rfl)) da_nil))) (blkOk_by (own := [("phase", 2), ("task", 3)]) (N := N_look_at_state) (sc := defScope s_look_at_state) (by decide +kernel)) (gk_tup (gk_cons gl_name (gk_cons gl_name gk_nil))) (wip_tup (wip_cons mon_name (mon_cons mon_name mon_nil) (wip_name (by decide)) (wip_cons mon_name mon_nil (wip_name (by decide)) wip_nil))) (mon_tup (mon_cons mon_name (mon_cons mon_name mon_nil))) (fun _ _ _ _ _ => (pg_tup rfl (pgs_cons (pg_name (i := 2) sc_look_at_state.nd rfl (.inl rfl)) (pgs_cons (pg_name (i := 3) sc_look_at_state.nd rfl (.inl rfl)) pgs_nil)))) (fun _ _ _ _ _ => dts_nil) (fun _ _ _ _ _ => (de_cmp c_lt (vv 2) (de_callB w_len (by rfl) W.n_len (by decide +kernel) (da_cons (ve_ix (hu_of hr.toRoom) (vv 3) de_int (fun _ _ => rfl)) da_nil)) (nomark _))))) da_nil))))
      (dss_one (ds_raise e_BadState rfl (room2 hr) (by rfl) de_str))
      dss_nil)
    (dss_one (ds_if (vt_cmp (ci_ne hr.units) (de_callB w_len (by rfl) W.n_len (by decide +kernel) (da_cons (ve_ix (hu_of hr.toRoom) (vv 1) de_int (fun _ _ => rfl)) da_nil)) (de_callB w_len (by rfl) W.n_len (by decide +kernel) (da_cons (ve_ix (hu_of hr.toRoom) (vv 0) de_int (fun _ _ => rfl)) da_nil)) (nomark _))
      (dss_one (ds_raise e_BadState rfl (room2 hr) (by rfl) de_str))
      dss_nil)))))), fun as AH Q E' h => rdx_look_at_state as AH Q E' h⟩, fun_dat F⟩
abbrev s__law_graph : Stmt := topS 64
abbrev N__law_graph : List Str := ["m", "many", "phases", "most", "tasks", "laps", "lines", "k", "one", "order"]
abbrev P__law_graph : List Str := ["m", "many", "phases", "most"]
theorem sc__law_graph : FnScope N__law_graph P__law_graph (defScope s__law_graph) := ⟨rfl, rfl, rfl, by decide +kernel, rfl, by decide +kernel, by decide +kernel⟩
theorem ok__law_graph (W : Wd mg) (h__law_next : Has P w K mg base 1 "_law_next" P__law_next sp__law_next) (h__law_tasks : Has P w K mg base 3 "_law_tasks" P__law_tasks sp__law_tasks) (h__law_line : Has P w K mg base 3 "_law_line" P__law_line sp__law_line) {f : Addr} {fd : FuncData} (hf : mg "_law_graph" = some (.ref f)) (F : Fun K "_law_graph" "_law_graph" s__law_graph f fd) : Has P w K mg base 4 "_law_graph" P__law_graph sp__law_graph :=
  ⟨f, fd, hf, F.kp, F.binds (ps := P__law_graph) (fun _ _ _ _ _ _ us hl => match us, hl with | [_, _, _, _], _ => rfl), fun_ok F sc__law_graph (fun as A Q h => len__law_graph as A Q h) fun cdv A outer s H E hr => ⟨t__law_graph, (dss_cons (wd_par3 (i := 4) (j := 5) (l := 6) rfl sc__law_graph.nd rfl rfl rfl (by decide) (by decide) (by decide) rfl rfl rfl (da_cons (de_has h__law_tasks hr (by rfl) (da_cons (vv 0) (da_cons (vv 1) (da_cons (vv 2) da_nil)))) (da_cons (lc_v (de_lc (own := [("k", 7)]) rfl sc__law_graph.nd (dj_rg1 (by rfl) W.n_range (da_cons (vv 1) da_nil)) (blkOk_by (own := [("k", 7)]) (N := N__law_graph) (sc := defScope s__law_graph) (by decide +kernel)) gl_name (wip_name (by decide)) mon_name (fun _ _ _ _ _ => (pg_name (i := 7) sc__law_graph.nd rfl (.inl rfl))) (fun _ _ _ _ _ => dts_nil) (fun _ _ _ _ _ => (de_op o_add de_int (de_has h__law_next hr (by rfl) (da_cons (vv 0) (da_cons (vv 3) da_nil))))))) (da_cons (de_lst da_nil) da_nil))) rfl)
    (dss_cons (wd_for PassesOwn.never rfl (dj_rg2 (by rfl) W.n_range (da_cons de_int (da_cons (vv 1) da_nil))) (pg_name (i := 7) sc__law_graph.nd rfl (.inl rfl)) gl_name
      (dss_cons (ds_set (i := 8) sc__law_graph.nd rfl (.inl rfl) (de_has h__law_next hr (by rfl) (da_cons (vv 0) (da_cons (vv 7) da_nil))))
      (dss_one (ds_if (vt_cmp c_gt (de_has h__law_next hr (by rfl) (da_cons (vv 0) (da_cons de_int da_nil))) de_int (nomark _))
        (dss_one (ds_expr (we_ml PySem.F.slot_list_append PySem.F.type_list_append ni_app (vv 6) (da_cons (de_if (vt_cmp c_gt (de_has h__law_next hr (by rfl) (da_cons (vv 0) (da_cons de_int da_nil))) de_int (nomark _)) (de_has h__law_line hr (by rfl) (da_cons (vv 0) (da_cons (vv 4) (da_cons (vv 5) (da_cons (vv 8) (da_cons (vv 7) da_nil)))))) (de_has h__law_line hr (by rfl) (da_cons (vv 0) (da_cons (vv 4) (da_cons (vv 5) (da_cons (vv 7) (da_cons (vv 8) da_nil))))))) da_nil))))
        dss_nil))))
    (dss_cons (wd_for PassesOwn.never rfl (dj_rg1 (by rfl) W.n_range (da_cons (de_has h__law_next hr (by rfl) (da_cons (vv 0) (da_cons (de_op o_add (vv 1) de_int) da_nil))) da_nil)) (pg_name (i := 7) sc__law_graph.nd rfl (.inl rfl)) gl_name
      (dss_one (ds_expr (we_ml PySem.F.slot_list_append PySem.F.type_list_append ni_app (vv 6) (da_cons (de_has h__law_line hr (by rfl) (da_cons (vv 0) (da_cons (vv 4) (da_cons (vv 5) (da_cons (de_has h__law_next hr (by rfl) (da_cons (vv 0) (da_cons (vv 1) da_nil))) (da_cons (de_has h__law_next hr (by rfl) (da_cons (vv 0) (da_cons (vv 1) da_nil))) da_nil)))))) da_nil)))))
    (dss_cons (ds_set (i := 9) sc__law_graph.nd rfl (.inl rfl) (de_lst da_nil))
    (dss_cons (ds_while PassesOwn.never (vt_cmp (ci_ne hr.units) (vv 6) (de_fl da_nil) (nomark _))
      (dss_one (ds_expr (we_ml PySem.F.slot_list_append PySem.F.type_list_append ni_app (vv 9) (da_cons (we_ml PySem.F.slot_list_pop PySem.F.type_list_pop ni_pop (vv 6) (da_cons (de_has h__law_next hr (by rfl) (da_cons (vv 0) (da_cons (de_callB w_len (by rfl) W.n_len (by decide +kernel) (da_cons (vv 6) da_nil)) da_nil))) da_nil)) da_nil)))))
    (dss_one (ds_ret (de_tup (da_cons (vv 4) (da_cons (de_callT w_tuple (by rfl) W.n_tuple (by decide +kernel) (da_cons (vv 9) da_nil)) da_nil)))))))))), fun as AH Q h => rd__law_graph as AH Q h⟩, fun_dat F⟩
abbrev s_has_graph_form : Stmt := topS 26
abbrev N_has_graph_form : List Str := ["thing", "line", "task"]
abbrev P_has_graph_form : List Str := ["thing"]
theorem sc_has_graph_form : FnScope N_has_graph_form P_has_graph_form (defScope s_has_graph_form) := ⟨rfl, rfl, rfl, by decide +kernel, rfl, by decide +kernel, by decide +kernel⟩
theorem ok_has_graph_form (W : Wd mg) (h_is_tuple_of : Has P w K mg base 1 "is_tuple_of" P_is_tuple_of sp_is_tuple_of) (h_is_task : Has P w K mg base 4 "is_task" P_is_task sp_is_task) (h_is_line : Has P w K mg base 4 "is_line" P_is_line sp_is_line) {f : Addr} {fd : FuncData} (hf : mg "has_graph_form" = some (.ref f)) (F : Fun K "has_graph_form" "has_graph_form" s_has_graph_form f fd) : Has P w K mg base 5 "has_graph_form" P_has_graph_form sp_has_graph_form :=
  ⟨f, fd, hf, F.kp, F.binds (ps := P_has_graph_form) (fun _ _ _ _ _ _ us hl => match us, hl with | [_], _ => rfl), fun_ok F sc_has_graph_form (fun as A Q h => len_has_graph_form as A Q h) fun cdv A outer s H E hr => ⟨t_has_graph_form, (dss_cons (ds_if (DW.dt (dw_or (dt_not (vt_tru (de_has h_is_tuple_of hr (by rfl) (da_cons (vv 0) (da_cons de_int (da_cons de_int da_nil)))))) (dw_or1 (dt_not (vt_tru (de_has h_is_tuple_of hr (by rfl) (da_cons (ve_ix (hu_of hr.toRoom) (vv 0) de_int (fun _ _ => rfl)) (da_cons de_int (da_cons (de_globEI (by rfl) W.c_MOST_TASKS) da_nil)))))))))
      (dss_one (ds_ret de_bl))
      dss_nil)
    (dss_cons (ds_if (DW.dt (dw_or (dt_not (vt_tru (de_has h_is_tuple_of hr (by rfl) (da_cons (ve_ix (hu_of hr.toRoom) (vv 0) de_int (fun _ _ => rfl)) (da_cons de_int (da_cons (de_globEI (by rfl) W.c_MOST_LINES) da_nil)))))) (dw_or1 (dt_not (vt_tru (de_callB (w_all rfl) (by rfl) W.n_all (by decide +kernel) (da_cons (lc_v (de_lc (own := [("task", 2)]) rfl sc_has_graph_form.nd (dj_sq (ve_ix (hu_of hr.toRoom) (vv 0) de_int (fun _ _ => rfl))) (blkOk_by (own := [("task", 2)]) (N := N_has_graph_form) (sc := defScope s_has_graph_form) (by decide +kernel)) gl_name (wip_name (by decide)) mon_name (fun _ _ _ _ _ => (pg_name (i := 2) sc_has_graph_form.nd rfl (.inl rfl))) (fun _ _ _ _ _ => dts_nil) (fun _ _ _ _ _ => (de_has h_is_task hr (by rfl) (da_cons (vv 2) da_nil))))) da_nil)))))))
      (dss_one (ds_ret de_bl))
      dss_nil)
    (dss_one (ds_ret (de_callB (w_all rfl) (by rfl) W.n_all (by decide +kernel) (da_cons (lc_v (de_lc (own := [("line", 1)]) rfl sc_has_graph_form.nd (dj_sq (ve_ix (hu_of hr.toRoom) (vv 0) de_int (fun _ _ => rfl))) (blkOk_by (own := [("line", 1)]) (N := N_has_graph_form) (sc := defScope s_has_graph_form) (by decide +kernel)) gl_name (wip_name (by decide)) mon_name (fun _ _ _ _ _ => (pg_name (i := 1) sc_has_graph_form.nd rfl (.inl rfl))) (fun _ _ _ _ _ => dts_nil) (fun _ _ _ _ _ => (de_has h_is_line hr (by rfl) (da_cons (vv 1) da_nil))))) da_nil)))))), fun as AH Q h => rd_has_graph_form as AH Q h⟩, fun_dat F⟩
theorem okg_has_graph_form (W : Wd mg) (hg_is_tuple_of : Has P w K mg base 1 "is_tuple_of" P_is_tuple_of sg_is_tuple_of) (hg_is_task : Has P w K mg base 4 "is_task" P_is_task sg_is_task) (hg_is_line : Has P w K mg base 4 "is_line" P_is_line sg_is_line) {f : Addr} {fd : FuncData} (hf : mg "has_graph_form" = some (.ref f)) (F : Fun K "has_graph_form" "has_graph_form" s_has_graph_form f fd) : Has P w K mg base 5 "has_graph_form" P_has_graph_form sg_has_graph_form :=
  ⟨f, fd, hf, F.kp, F.binds (ps := P_has_graph_form) (fun _ _ _ _ _ _ us hl => match us, hl with | [_], _ => rfl), fun_ok F sc_has_graph_form (fun as A Q h => leng_has_graph_form as A Q h) fun cdv A outer s H E hr => ⟨tg_has_graph_form, (dss_cons (ds_if (DW.dt (dw_or (dt_not (vt_tru (de_has hg_is_tuple_of hr (by rfl) (da_cons (vv 0) (da_cons de_int (da_cons de_int da_nil)))))) (dw_or1 (dt_not (vt_tru (de_has hg_is_tuple_of hr (by rfl) (da_cons (ve_ix (hu_of hr.toRoom) (vv 0) de_int (fun _ _ => rfl)) (da_cons de_int (da_cons (de_globEI (by rfl) W.c_MOST_TASKS) da_nil)))))))))
      (dss_one (ds_ret de_bl))
      dss_nil)
    (dss_cons (ds_if (DW.dt (dw_or (dt_not (vt_tru (de_has hg_is_tuple_of hr (by rfl) (da_cons (ve_ix (hu_of hr.toRoom) (vv 0) de_int (fun _ _ => rfl)) (da_cons de_int (da_cons (de_globEI (by rfl) W.c_MOST_LINES) da_nil)))))) (dw_or1 (dt_not (vt_tru (de_callB (w_all rfl) (by rfl) W.n_all (by decide +kernel) (da_cons (lc_v (de_lc (own := [("task", 2)]) rfl sc_has_graph_form.nd (dj_sq (ve_ix (hu_of hr.toRoom) (vv 0) de_int (fun _ _ => rfl))) (blkOk_by (own := [("task", 2)]) (N := N_has_graph_form) (sc := defScope s_has_graph_form) (by decide +kernel)) gl_name (wip_name (by decide)) mon_name (fun _ _ _ _ _ => (pg_name (i := 2) sc_has_graph_form.nd rfl (.inl rfl))) (fun _ _ _ _ _ => dts_nil) (fun _ _ _ _ _ => (de_has hg_is_task hr (by rfl) (da_cons (vv 2) da_nil))))) da_nil)))))))
      (dss_one (ds_ret de_bl))
      dss_nil)
    (dss_one (ds_ret (de_callB (w_all rfl) (by rfl) W.n_all (by decide +kernel) (da_cons (lc_v (de_lc (own := [("line", 1)]) rfl sc_has_graph_form.nd (dj_sq (ve_ix (hu_of hr.toRoom) (vv 0) de_int (fun _ _ => rfl))) (blkOk_by (own := [("line", 1)]) (N := N_has_graph_form) (sc := defScope s_has_graph_form) (by decide +kernel)) gl_name (wip_name (by decide)) mon_name (fun _ _ _ _ _ => (pg_name (i := 1) sc_has_graph_form.nd rfl (.inl rfl))) (fun _ _ _ _ _ => dts_nil) (fun _ _ _ _ _ => (de_has hg_is_line hr (by rfl) (da_cons (vv 1) da_nil))))) da_nil)))))), fun as AH Q h => rg_has_graph_form as AH Q h⟩, fun_dat F⟩
abbrev s_look_at_graph : Stmt := topS 28
abbrev N_look_at_graph : List Str := ["graph", "names", "line"]
abbrev P_look_at_graph : List Str := ["graph"]
theorem sc_look_at_graph : FnScope N_look_at_graph P_look_at_graph (defScope s_look_at_graph) := ⟨rfl, rfl, rfl, by decide +kernel, rfl, by decide +kernel, by decide +kernel⟩
theorem ok_look_at_graph (W : Wd mg) (h_has_graph_form : Has P w K mg base 5 "has_graph_form" P_has_graph_form sp_has_graph_form) (h_task_names : Has P w K mg base 1 "task_names" P_task_names sp_task_names) (h_fits : Has P w K mg base 1 "fits" P_fits sp_fits) {f : Addr} {fd : FuncData} (hf : mg "look_at_graph" = some (.ref f)) (F : Fun K "look_at_graph" "look_at_graph" s_look_at_graph f fd) : Has P w K mg base 6 "look_at_graph" P_look_at_graph sp_look_at_graph :=
  ⟨f, fd, hf, F.kp, F.binds (ps := P_look_at_graph) (fun _ _ _ _ _ _ us hl => match us, hl with | [_], _ => rfl), fun_ok F sc_look_at_graph (fun as A Q h => len_look_at_graph as A Q h) fun cdv A outer s H E hr => ⟨t_look_at_graph, (dss_cons (ds_if (dt_not (vt_tru (de_has h_has_graph_form hr (by rfl) (da_cons (vv 0) da_nil))))
      (dss_one ds_never)
      dss_nil)
    (dss_cons (ds_set (i := 1) sc_look_at_graph.nd rfl (.inl rfl) (de_has h_task_names hr (by rfl) (da_cons (vv 0) da_nil)))
    (dss_cons (ds_if (vt_cmp (ci_ne hr.units) (ve_lenSet (by rfl) W.n_len (by rfl) W.n_set (vv 1) rfl mon_var) (de_callB w_len (by rfl) W.n_len (by decide +kernel) (da_cons (vv 1) da_nil)) (nomark _))
      (dss_one ds_never)
      dss_nil)
    (dss_one (ds_if (dt_not (vt_tru (de_callB (w_all rfl) (by rfl) W.n_all (by decide +kernel) (da_cons (lc_v (de_lc (own := [("line", 2)]) rfl sc_look_at_graph.nd (dj_sq (ve_ix (hu_of hr.toRoom) (vv 0) de_int (fun _ _ => rfl))) (blkOk_by (own := [("line", 2)]) (N := N_look_at_graph) (sc := defScope s_look_at_graph) (by decide +kernel)) gl_name (wip_name (by decide)) mon_name (fun _ _ _ _ _ => (pg_name (i := 2) sc_look_at_graph.nd rfl (.inl rfl))) (fun _ _ _ _ _ => dts_nil) (fun _ _ _ _ _ => (de_has h_fits hr (by rfl) (da_cons (vv 0) (da_cons (vv 2) da_nil)))))) da_nil))))
      (dss_one ds_never)
      dss_nil))))), fun as AH Q h => rd_look_at_graph as AH Q h⟩, fun_dat F⟩
theorem okx_look_at_graph (W : Wd mg) (hg_has_graph_form : Has P w K mg base 5 "has_graph_form" P_has_graph_form sg_has_graph_form) (h_task_names : Has P w K mg base 1 "task_names" P_task_names sp_task_names) (hg_fits : Has P w K mg base 1 "fits" P_fits sg_fits) (e_BadGraph : ErrOk P w K mg base "BadGraph" "place") {f : Addr} {fd : FuncData} (hf : mg "look_at_graph" = some (.ref f)) (F : Fun K "look_at_graph" "look_at_graph" s_look_at_graph f fd) : HasX P w K mg base 6 "look_at_graph" P_look_at_graph spb_look_at_graph :=
  ⟨f, fd, hf, F.kp, F.binds (ps := P_look_at_graph) (fun _ _ _ _ _ _ us hl => match us, hl with | [_], _ => rfl), fun_okX F sc_look_at_graph (fun as A Q E' h => lnx_look_at_graph as A Q E' h) fun cdv A outer s H E hr => ⟨tx_look_at_graph, (dss_cons (ds_if (dt_not (vt_tru (de_has hg_has_graph_form hr (by rfl) (da_cons (vv 0) da_nil))))
      (dss_one (ds_raise e_BadGraph rfl (room2 hr) (by rfl) de_str))
      dss_nil)
    (dss_cons (ds_set (i := 1) sc_look_at_graph.nd rfl (.inl rfl) (de_has h_task_names hr (by rfl) (da_cons (vv 0) da_nil)))
    (dss_cons (ds_if (vt_cmp (ci_ne hr.units) (ve_lenSet (by rfl) W.n_len (by rfl) W.n_set (vv 1) rfl mon_var) (de_callB w_len (by rfl) W.n_len (by decide +kernel) (da_cons (vv 1) da_nil)) (nomark _))
      (dss_one (ds_raise e_BadGraph rfl (room2 hr) (by rfl) de_str))
      dss_nil)
    (dss_one (ds_if (dt_not (vt_tru (de_callB (w_all rfl) (by rfl) W.n_all (by decide +kernel) (da_cons (lc_v (de_lc (own := [("line", 2)]) rfl sc_look_at_graph.nd (dj_sq (ve_ix (hu_of hr.toRoom) (vv 0) de_int (fun _ _ => rfl))) (blkOk_by (own := [("line", 2)]) (N := N_look_at_graph) (sc := defScope s_look_at_graph) (by decide +kernel)) gl_name (wip_name (by decide)) mon_name (fun _ _ _ _ _ => (pg_name (i := 2) sc_look_at_graph.nd rfl (.inl rfl))) (fun _ _ _ _ _ => dts_nil) (fun _ _ _ _ _ => (de_has hg_fits hr (by rfl) (da_cons (vv 0) (da_cons (vv 2) da_nil)))))) da_nil))))
      (dss_one (ds_raise e_BadGraph rfl (room2 hr) (by rfl) de_str))
      dss_nil))))), fun as AH Q E' h => rdx_look_at_graph as AH Q E' h⟩, fun_dat F⟩
abbrev s_tuple_text : Stmt := topS 53
abbrev N_tuple_text : List Str := ["thing", "part"]
abbrev P_tuple_text : List Str := ["thing"]
theorem sc_tuple_text : FnScope N_tuple_text P_tuple_text (defScope s_tuple_text) := ⟨rfl, rfl, rfl, by decide +kernel, rfl, by decide +kernel, by decide +kernel⟩
theorem ok_tuple_text (W : Wd mg) {n k : Nat} {f : Addr} {fd : FuncData} (hf : mg "tuple_text" = some (.ref f)) (F : Fun K "tuple_text" "tuple_text" s_tuple_text f fd) (h_tuple_text : Has P w K mg base k "tuple_text" P_tuple_text (spn_tuple_text n)) : Has P w K mg base (k + 1) "tuple_text" P_tuple_text (spn_tuple_text (n + 1)) :=
  ⟨f, fd, hf, F.kp, F.binds (ps := P_tuple_text) (fun _ _ _ _ _ _ us hl => match us, hl with | [_], _ => rfl), fun_ok F sc_tuple_text (fun as A Q h => lenn_tuple_text (n + 1) as A Q h) fun cdv A outer s H E hr => ⟨t_tuple_text (spn_tuple_text n), (dss_cons (ds_if (vt_tru (de_callB w_isi (by rfl) W.n_isinstance (by decide +kernel) (da_cons (vv 0) (da_cons (de_ty (by rfl) W.n_tuple (by decide +kernel)) da_nil))))
      (dss_one (ds_ret (de_op o_add (de_op o_add de_str (we_join de_str (lc_v (de_lc (own := [("part", 1)]) rfl sc_tuple_text.nd (dj_sq (vv 0)) (blkOk_by (own := [("part", 1)]) (N := N_tuple_text) (sc := defScope s_tuple_text) (by decide +kernel)) gl_name (wip_name (by decide)) mon_name (fun _ _ _ _ _ => (pg_name (i := 1) sc_tuple_text.nd rfl (.inl rfl))) (fun _ _ _ _ _ => dts_nil) (fun _ _ _ _ _ => (de_has h_tuple_text hr (by rfl) (da_cons (vv 1) da_nil) (hj := Nat.le_refl _))))))) de_str)))
      dss_nil)
    (dss_one (ds_ret (de_callT t_str2 (by rfl) W.n_str (by decide +kernel) (da_cons (vv 0) da_nil))))), fun as AH Q h => rd_tuple_text n as AH Q h⟩, fun_dat F⟩
theorem okr_tuple_text (W : Wd mg) {f : Addr} {fd : FuncData} (hf : mg "tuple_text" = some (.ref f)) (F : Fun K "tuple_text" "tuple_text" s_tuple_text f fd) : Has P w K mg base 6 "tuple_text" P_tuple_text sp_tuple_text := (ok_tuple_text W  hf F (ok_tuple_text W  hf F (ok_tuple_text W  hf F (ok_tuple_text W  hf F (ok_tuple_text W  hf F (ok_tuple_text W  hf F (has_none (k := 0) hf F (F.binds (ps := P_tuple_text) (fun _ _ _ _ _ _ us hl => match us, hl with | [_], _ => rfl)) (fun as A Q h => rz_tuple_text as A Q h))))))))
abbrev s_need_graph : Stmt := topS 29
abbrev N_need_graph : List Str := ["graph"]
abbrev P_need_graph : List Str := ["graph"]
theorem sc_need_graph : FnScope N_need_graph P_need_graph (defScope s_need_graph) := ⟨rfl, rfl, rfl, by decide +kernel, rfl, by decide +kernel, by decide +kernel⟩
theorem ok_need_graph (W : Wd mg) (h_look_at_graph : Has P w K mg base 6 "look_at_graph" P_look_at_graph sp_look_at_graph) {f : Addr} {fd : FuncData} (hf : mg "need_graph" = some (.ref f)) (F : Fun K "need_graph" "need_graph" s_need_graph f fd) : Has P w K mg base 7 "need_graph" P_need_graph sp_need_graph :=
  ⟨f, fd, hf, F.kp, F.binds (ps := P_need_graph) (fun _ _ _ _ _ _ us hl => match us, hl with | [_], _ => rfl), fun_ok F sc_need_graph (fun as A Q h => len_need_graph as A Q h) fun cdv A outer s H E hr => ⟨t_need_graph, (dss_one (ds_expr (de_has h_look_at_graph hr (by rfl) (da_cons (vv 0) da_nil)))), fun as AH Q h => rd_need_graph as AH Q h⟩, fun_dat F⟩
theorem okx_need_graph (W : Wd mg) (hx_look_at_graph : HasX P w K mg base 6 "look_at_graph" P_look_at_graph spx_look_at_graph) {f : Addr} {fd : FuncData} (hf : mg "need_graph" = some (.ref f)) (F : Fun K "need_graph" "need_graph" s_need_graph f fd) : HasX P w K mg base 7 "need_graph" P_need_graph spb_need_graph :=
  ⟨f, fd, hf, F.kp, F.binds (ps := P_need_graph) (fun _ _ _ _ _ _ us hl => match us, hl with | [_], _ => rfl), fun_okX F sc_need_graph (fun as A Q E' h => lnx_need_graph as A Q E' h) fun cdv A outer s H E hr => ⟨tx_need_graph, (dss_one (ds_exprX (dx_has hx_look_at_graph hr (by rfl) (da_cons (vv 0) da_nil)))), fun as AH Q E' h => rdx_need_graph as AH Q E' h⟩, fun_dat F⟩
abbrev s_first_state : Stmt := topS 31
abbrev N_first_state : List Str := ["graph"]
abbrev P_first_state : List Str := ["graph"]
theorem sc_first_state : FnScope N_first_state P_first_state (defScope s_first_state) := ⟨rfl, rfl, rfl, by decide +kernel, rfl, by decide +kernel, by decide +kernel⟩
theorem ok_first_state (W : Wd mg) (h_look_at_graph : Has P w K mg base 6 "look_at_graph" P_look_at_graph sp_look_at_graph) (h_beginning : Has P w K mg base 1 "beginning" P_beginning sp_beginning) {f : Addr} {fd : FuncData} (hf : mg "first_state" = some (.ref f)) (F : Fun K "first_state" "first_state" s_first_state f fd) : Has P w K mg base 7 "first_state" P_first_state sp_first_state :=
  ⟨f, fd, hf, F.kp, F.binds (ps := P_first_state) (fun _ _ _ _ _ _ us hl => match us, hl with | [_], _ => rfl), fun_ok F sc_first_state (fun as A Q h => len_first_state as A Q h) fun cdv A outer s H E hr => ⟨t_first_state, (dss_cons (ds_expr (de_has h_look_at_graph hr (by rfl) (da_cons (vv 0) da_nil)))
    (dss_one (ds_ret (de_has h_beginning hr (by rfl) (da_cons (vv 0) da_nil))))), fun as AH Q h => rd_first_state as AH Q h⟩, fun_dat F⟩
theorem okx_first_state (W : Wd mg) (hx_look_at_graph : HasX P w K mg base 6 "look_at_graph" P_look_at_graph spx_look_at_graph) (h_beginning : Has P w K mg base 1 "beginning" P_beginning sp_beginning) {f : Addr} {fd : FuncData} (hf : mg "first_state" = some (.ref f)) (F : Fun K "first_state" "first_state" s_first_state f fd) : HasX P w K mg base 7 "first_state" P_first_state spb_first_state :=
  ⟨f, fd, hf, F.kp, F.binds (ps := P_first_state) (fun _ _ _ _ _ _ us hl => match us, hl with | [_], _ => rfl), fun_okX F sc_first_state (fun as A Q E' h => lnx_first_state as A Q E' h) fun cdv A outer s H E hr => ⟨tx_first_state, (dss_cons (ds_exprX (dx_has hx_look_at_graph hr (by rfl) (da_cons (vv 0) da_nil)))
    (dss_one (ds_ret (de_has h_beginning hr (by rfl) (da_cons (vv 0) da_nil))))), fun as AH Q E' h => rdx_first_state as AH Q E' h⟩, fun_dat F⟩
abbrev s_need_state : Stmt := topS 33
abbrev N_need_state : List Str := ["graph", "state"]
abbrev P_need_state : List Str := ["graph", "state"]
theorem sc_need_state : FnScope N_need_state P_need_state (defScope s_need_state) := ⟨rfl, rfl, rfl, by decide +kernel, rfl, by decide +kernel, by decide +kernel⟩
theorem ok_need_state (W : Wd mg) (h_look_at_graph : Has P w K mg base 6 "look_at_graph" P_look_at_graph sp_look_at_graph) (h_look_at_state : Has P w K mg base 4 "look_at_state" P_look_at_state sp_look_at_state) {f : Addr} {fd : FuncData} (hf : mg "need_state" = some (.ref f)) (F : Fun K "need_state" "need_state" s_need_state f fd) : Has P w K mg base 7 "need_state" P_need_state sp_need_state :=
  ⟨f, fd, hf, F.kp, F.binds (ps := P_need_state) (fun _ _ _ _ _ _ us hl => match us, hl with | [_, _], _ => rfl), fun_ok F sc_need_state (fun as A Q h => len_need_state as A Q h) fun cdv A outer s H E hr => ⟨t_need_state, (dss_cons (ds_expr (de_has h_look_at_graph hr (by rfl) (da_cons (vv 0) da_nil)))
    (dss_one (ds_expr (de_has h_look_at_state hr (by rfl) (da_cons (vv 0) (da_cons (vv 1) da_nil)))))), fun as AH Q h => rd_need_state as AH Q h⟩, fun_dat F⟩
theorem okx_need_state (W : Wd mg) (hx_look_at_graph : HasX P w K mg base 6 "look_at_graph" P_look_at_graph spx_look_at_graph) (hx_look_at_state : HasX P w K mg base 4 "look_at_state" P_look_at_state spx_look_at_state) {f : Addr} {fd : FuncData} (hf : mg "need_state" = some (.ref f)) (F : Fun K "need_state" "need_state" s_need_state f fd) : HasX P w K mg base 7 "need_state" P_need_state spb_need_state :=
  ⟨f, fd, hf, F.kp, F.binds (ps := P_need_state) (fun _ _ _ _ _ _ us hl => match us, hl with | [_, _], _ => rfl), fun_okX F sc_need_state (fun as A Q E' h => lnx_need_state as A Q E' h) fun cdv A outer s H E hr => ⟨tx_need_state, (dss_cons (ds_exprX (dx_has hx_look_at_graph hr (by rfl) (da_cons (vv 0) da_nil)))
    (dss_one (ds_exprX (dx_has hx_look_at_state hr (by rfl) (da_cons (vv 0) (da_cons (vv 1) da_nil)))))), fun as AH Q E' h => rdx_need_state as AH Q E' h⟩, fun_dat F⟩
abbrev s_can_fire : Stmt := topS 45
abbrev N_can_fire : List Str := ["graph", "state", "ready", "number", "lines"]
abbrev P_can_fire : List Str := ["graph", "state"]
theorem sc_can_fire : FnScope N_can_fire P_can_fire (defScope s_can_fire) := ⟨rfl, rfl, rfl, by decide +kernel, rfl, by decide +kernel, by decide +kernel⟩
theorem ok_can_fire (W : Wd mg) (h_look_at_graph : Has P w K mg base 6 "look_at_graph" P_look_at_graph sp_look_at_graph) (h_look_at_state : Has P w K mg base 4 "look_at_state" P_look_at_state sp_look_at_state) (h_leading_to : Has P w K mg base 2 "leading_to" P_leading_to sp_leading_to) (h_is_ready : Has P w K mg base 1 "is_ready" P_is_ready sp_is_ready) {f : Addr} {fd : FuncData} (hf : mg "can_fire" = some (.ref f)) (F : Fun K "can_fire" "can_fire" s_can_fire f fd) : Has P w K mg base 7 "can_fire" P_can_fire sp_can_fire :=
  ⟨f, fd, hf, F.kp, F.binds (ps := P_can_fire) (fun _ _ _ _ _ _ us hl => match us, hl with | [_, _], _ => rfl), fun_ok F sc_can_fire (fun as A Q h => len_can_fire as A Q h) fun cdv A outer s H E hr => ⟨t_can_fire, (dss_cons (ds_expr (de_has h_look_at_graph hr (by rfl) (da_cons (vv 0) da_nil)))
    (dss_cons (ds_expr (de_has h_look_at_state hr (by rfl) (da_cons (vv 0) (da_cons (vv 1) da_nil))))
    (dss_cons (ds_set (i := 2) sc_can_fire.nd rfl (.inl rfl) (de_lst da_nil))
    (dss_cons (wd_for PassesOwn.never rfl (dj_enu (by rfl) W.n_enumerate (da_cons (de_has h_leading_to hr (by rfl) (da_cons (vv 0) da_nil)) da_nil)) (pg_tup rfl (pgs_cons (pg_name (i := 3) sc_can_fire.nd rfl (.inl rfl)) (pgs_cons (pg_name (i := 4) sc_can_fire.nd rfl (.inl rfl)) pgs_nil))) (gk_tup (gk_cons gl_name (gk_cons gl_name gk_nil)))
      (dss_one (ds_if (vt_tru (de_has h_is_ready hr (by rfl) (da_cons (vv 0) (da_cons (vv 1) (da_cons (vv 3) (da_cons (vv 4) da_nil))))))
        (dss_one (ds_expr (we_ml PySem.F.slot_list_append PySem.F.type_list_append ni_app (vv 2) (da_cons (ve_ix (hu_of hr.toRoom) (ve_ix (hu_of hr.toRoom) (ve_ix (hu_of hr.toRoom) (vv 0) de_int (fun _ _ => rfl)) (vv 3) (fun _ _ => rfl)) de_int (fun _ _ => rfl)) da_nil))))
        dss_nil)))
    (dss_one (ds_ret (de_callT w_tuple (by rfl) W.n_tuple (by decide +kernel) (da_cons (vv 2) da_nil)))))))), fun as AH Q h => rd_can_fire as AH Q h⟩, fun_dat F⟩
theorem okx_can_fire (W : Wd mg) (hx_look_at_graph : HasX P w K mg base 6 "look_at_graph" P_look_at_graph spx_look_at_graph) (hx_look_at_state : HasX P w K mg base 4 "look_at_state" P_look_at_state spx_look_at_state) (h_leading_to : Has P w K mg base 2 "leading_to" P_leading_to sp_leading_to) (h_is_ready : Has P w K mg base 1 "is_ready" P_is_ready sp_is_ready) {f : Addr} {fd : FuncData} (hf : mg "can_fire" = some (.ref f)) (F : Fun K "can_fire" "can_fire" s_can_fire f fd) : HasX P w K mg base 7 "can_fire" P_can_fire spb_can_fire :=
  ⟨f, fd, hf, F.kp, F.binds (ps := P_can_fire) (fun _ _ _ _ _ _ us hl => match us, hl with | [_, _], _ => rfl), fun_okX F sc_can_fire (fun as A Q E' h => lnx_can_fire as A Q E' h) fun cdv A outer s H E hr => ⟨tx_can_fire, (dss_cons (ds_exprX (dx_has hx_look_at_graph hr (by rfl) (da_cons (vv 0) da_nil)))
    (dss_cons (ds_exprX (dx_has hx_look_at_state hr (by rfl) (da_cons (vv 0) (da_cons (vv 1) da_nil))))
    (dss_cons (ds_set (i := 2) sc_can_fire.nd rfl (.inl rfl) (de_lst da_nil))
    (dss_cons (wd_for (passes_of rfl) rfl (dj_enu (by rfl) W.n_enumerate (da_cons (de_has h_leading_to hr (by rfl) (da_cons (vv 0) da_nil)) da_nil)) (pg_tup rfl (pgs_cons (pg_name (i := 3) sc_can_fire.nd rfl (.inl rfl)) (pgs_cons (pg_name (i := 4) sc_can_fire.nd rfl (.inl rfl)) pgs_nil))) (gk_tup (gk_cons gl_name (gk_cons gl_name gk_nil)))
      (dss_one (ds_if (vt_tru (de_has h_is_ready hr (by rfl) (da_cons (vv 0) (da_cons (vv 1) (da_cons (vv 3) (da_cons (vv 4) da_nil))))))
        (dss_one (ds_expr (we_ml PySem.F.slot_list_append PySem.F.type_list_append ni_app (vv 2) (da_cons (ve_ix (hu_of hr.toRoom) (ve_ix (hu_of hr.toRoom) (ve_ix (hu_of hr.toRoom) (vv 0) de_int (fun _ _ => rfl)) (vv 3) (fun _ _ => rfl)) de_int (fun _ _ => rfl)) da_nil))))
        dss_nil)))
    (dss_one (ds_ret (de_callT w_tuple (by rfl) W.n_tuple (by decide +kernel) (da_cons (vv 2) da_nil)))))))), fun as AH Q E' h => rdx_can_fire as AH Q E' h⟩, fun_dat F⟩
abbrev s_fired : Stmt := topS 47
abbrev N_fired : List Str := ["graph", "state", "name", "number", "phases", "stocks"]
abbrev P_fired : List Str := ["graph", "state", "name"]
theorem sc_fired : FnScope N_fired P_fired (defScope s_fired) := ⟨rfl, rfl, rfl, by decide +kernel, rfl, by decide +kernel, by decide +kernel⟩
theorem ok_fired (W : Wd mg) (h_look_at_graph : Has P w K mg base 6 "look_at_graph" P_look_at_graph sp_look_at_graph) (h_look_at_state : Has P w K mg base 4 "look_at_state" P_look_at_state sp_look_at_state) (h_task_number : Has P w K mg base 2 "task_number" P_task_number sp_task_number) (h_leading_from : Has P w K mg base 2 "leading_from" P_leading_from sp_leading_from) (h_leading_to : Has P w K mg base 2 "leading_to" P_leading_to sp_leading_to) (h_fire : Has P w K mg base 1 "fire" P_fire sp_fire) {f : Addr} {fd : FuncData} (hf : mg "fired" = some (.ref f)) (F : Fun K "fired" "fired" s_fired f fd) : Has P w K mg base 7 "fired" P_fired sp_fired :=
  ⟨f, fd, hf, F.kp, F.binds (ps := P_fired) (fun _ _ _ _ _ _ us hl => match us, hl with | [_, _, _], _ => rfl), fun_ok F sc_fired (fun as A Q h => len_fired as A Q h) fun cdv A outer s H E hr => ⟨t_fired, (dss_cons (ds_expr (de_has h_look_at_graph hr (by rfl) (da_cons (vv 0) da_nil)))
    (dss_cons (ds_expr (de_has h_look_at_state hr (by rfl) (da_cons (vv 0) (da_cons (vv 1) da_nil))))
    (dss_cons (ds_set (i := 3) sc_fired.nd rfl (.inl rfl) (de_has h_task_number hr (by rfl) (da_cons (vv 0) (da_cons (vv 2) da_nil))))
    (dss_cons (wd_par (i := 4) (j := 5) rfl sc_fired.nd rfl rfl (by decide) rfl rfl (da_cons (de_callT w_listM (by rfl) W.n_list (by decide +kernel) (da_cons (ve_ix (hu_of hr.toRoom) (vv 1) de_int (fun _ _ => rfl)) da_nil)) (da_cons (de_callT w_listM (by rfl) W.n_list (by decide +kernel) (da_cons (ve_ix (hu_of hr.toRoom) (vv 1) de_int (fun _ _ => rfl)) da_nil)) da_nil)) rfl)
    (dss_cons (ds_if (dt_not (vt_tru (de_has h_fire hr (by rfl) (da_cons (vv 0) (da_cons (vv 4) (da_cons (vv 5) (da_cons (vv 3) (da_cons (ve_ix (hu_of hr.toRoom) (de_has h_leading_to hr (by rfl) (da_cons (vv 0) da_nil)) (vv 3) (fun _ _ => rfl)) (da_cons (ve_ix (hu_of hr.toRoom) (de_has h_leading_from hr (by rfl) (da_cons (vv 0) da_nil)) (vv 3) (fun _ _ => rfl)) da_nil)))))))))
      (dss_one ds_never)
      dss_nil)
    (dss_one (ds_ret (de_tup (da_cons (de_callT w_tuple (by rfl) W.n_tuple (by decide +kernel) (da_cons (vv 4) da_nil)) (da_cons (de_callT w_tuple (by rfl) W.n_tuple (by decide +kernel) (da_cons (vv 5) da_nil)) da_nil)))))))))), fun as AH Q h => rd_fired as AH Q h⟩, fun_dat F⟩
theorem okx_fired (W : Wd mg) (hx_look_at_graph : HasX P w K mg base 6 "look_at_graph" P_look_at_graph spx_look_at_graph) (hx_look_at_state : HasX P w K mg base 4 "look_at_state" P_look_at_state spx_look_at_state) (h_task_number : Has P w K mg base 2 "task_number" P_task_number sp_task_number) (h_leading_from : Has P w K mg base 2 "leading_from" P_leading_from sp_leading_from) (h_leading_to : Has P w K mg base 2 "leading_to" P_leading_to sp_leading_to) (h_fire : Has P w K mg base 1 "fire" P_fire sp_fire) (e_BadFiring : ErrOk P w K mg base "BadFiring" "value") {f : Addr} {fd : FuncData} (hf : mg "fired" = some (.ref f)) (F : Fun K "fired" "fired" s_fired f fd) : HasX P w K mg base 7 "fired" P_fired spb_fired :=
  ⟨f, fd, hf, F.kp, F.binds (ps := P_fired) (fun _ _ _ _ _ _ us hl => match us, hl with | [_, _, _], _ => rfl), fun_okX F sc_fired (fun as A Q E' h => lnx_fired as A Q E' h) fun cdv A outer s H E hr => ⟨tx_fired, (dss_cons (ds_exprX (dx_has hx_look_at_graph hr (by rfl) (da_cons (vv 0) da_nil)))
    (dss_cons (ds_exprX (dx_has hx_look_at_state hr (by rfl) (da_cons (vv 0) (da_cons (vv 1) da_nil))))
    (dss_cons (ds_set (i := 3) sc_fired.nd rfl (.inl rfl) (de_has h_task_number hr (by rfl) (da_cons (vv 0) (da_cons (vv 2) da_nil))))
    (dss_cons (wd_par (i := 4) (j := 5) rfl sc_fired.nd rfl rfl (by decide) rfl rfl (da_cons (de_callT w_listM (by rfl) W.n_list (by decide +kernel) (da_cons (ve_ix (hu_of hr.toRoom) (vv 1) de_int (fun _ _ => rfl)) da_nil)) (da_cons (de_callT w_listM (by rfl) W.n_list (by decide +kernel) (da_cons (ve_ix (hu_of hr.toRoom) (vv 1) de_int (fun _ _ => rfl)) da_nil)) da_nil)) rfl)
    (dss_cons (ds_if (dt_not (vt_tru (de_has h_fire hr (by rfl) (da_cons (vv 0) (da_cons (vv 4) (da_cons (vv 5) (da_cons (vv 3) (da_cons (ve_ix (hu_of hr.toRoom) (de_has h_leading_to hr (by rfl) (da_cons (vv 0) da_nil)) (vv 3) (fun _ _ => rfl)) (da_cons (ve_ix (hu_of hr.toRoom) (de_has h_leading_from hr (by rfl) (da_cons (vv 0) da_nil)) (vv 3) (fun _ _ => rfl)) da_nil)))))))))
      (dss_one (ds_raise e_BadFiring rfl (room2 hr) (by rfl) (vv 2)))
      dss_nil)
    (dss_one (ds_ret (de_tup (da_cons (de_callT w_tuple (by rfl) W.n_tuple (by decide +kernel) (da_cons (vv 4) da_nil)) (da_cons (de_callT w_tuple (by rfl) W.n_tuple (by decide +kernel) (da_cons (vv 5) da_nil)) da_nil)))))))))), fun as AH Q E' h => rdx_fired as AH Q E' h⟩, fun_dat F⟩
abbrev s_look_at_line : Stmt := topS 48
abbrev N_look_at_line : List Str := ["graph", "line"]
abbrev P_look_at_line : List Str := ["graph", "line"]
theorem sc_look_at_line : FnScope N_look_at_line P_look_at_line (defScope s_look_at_line) := ⟨rfl, rfl, rfl, by decide +kernel, rfl, by decide +kernel, by decide +kernel⟩
theorem ok_look_at_line (W : Wd mg) (h_look_at_graph : Has P w K mg base 6 "look_at_graph" P_look_at_graph sp_look_at_graph) (h_need_number : Has P w K mg base 3 "need_number" P_need_number sp_need_number) {f : Addr} {fd : FuncData} (hf : mg "look_at_line" = some (.ref f)) (F : Fun K "look_at_line" "look_at_line" s_look_at_line f fd) : Has P w K mg base 7 "look_at_line" P_look_at_line sp_look_at_line :=
  ⟨f, fd, hf, F.kp, F.binds (ps := P_look_at_line) (fun _ _ _ _ _ _ us hl => match us, hl with | [_, _], _ => rfl), fun_ok F sc_look_at_line (fun as A Q h => len_look_at_line as A Q h) fun cdv A outer s H E hr => ⟨t_look_at_line, (dss_cons (ds_expr (de_has h_look_at_graph hr (by rfl) (da_cons (vv 0) da_nil)))
    (dss_one (ds_expr (de_has h_need_number hr (by rfl) (da_cons (vv 1) (da_cons de_int (da_cons (de_op o_sub (de_callB w_len (by rfl) W.n_len (by decide +kernel) (da_cons (ve_ix (hu_of hr.toRoom) (vv 0) de_int (fun _ _ => rfl)) da_nil)) de_int) da_nil))))))), fun as AH Q h => rd_look_at_line as AH Q h⟩, fun_dat F⟩
theorem okx_look_at_line (W : Wd mg) (hx_look_at_graph : HasX P w K mg base 6 "look_at_graph" P_look_at_graph spx_look_at_graph) (hx_need_number : HasX P w K mg base 3 "need_number" P_need_number spx_need_number) {f : Addr} {fd : FuncData} (hf : mg "look_at_line" = some (.ref f)) (F : Fun K "look_at_line" "look_at_line" s_look_at_line f fd) : HasX P w K mg base 7 "look_at_line" P_look_at_line spb_look_at_line :=
  ⟨f, fd, hf, F.kp, F.binds (ps := P_look_at_line) (fun _ _ _ _ _ _ us hl => match us, hl with | [_, _], _ => rfl), fun_okX F sc_look_at_line (fun as A Q E' h => lnx_look_at_line as A Q E' h) fun cdv A outer s H E hr => ⟨tx_look_at_line, (dss_cons (ds_exprX (dx_has hx_look_at_graph hr (by rfl) (da_cons (vv 0) da_nil)))
    (dss_one (ds_exprX (dx_has hx_need_number hr (by rfl) (da_cons (vv 1) (da_cons de_int (da_cons (de_op o_sub (de_callB w_len (by rfl) W.n_len (by decide +kernel) (da_cons (ve_ix (hu_of hr.toRoom) (vv 0) de_int (fun _ _ => rfl)) da_nil)) de_int) da_nil))))))), fun as AH Q E' h => rdx_look_at_line as AH Q E' h⟩, fun_dat F⟩
abbrev s_graph_text : Stmt := topS 54
abbrev N_graph_text : List Str := ["graph"]
abbrev P_graph_text : List Str := ["graph"]
theorem sc_graph_text : FnScope N_graph_text P_graph_text (defScope s_graph_text) := ⟨rfl, rfl, rfl, by decide +kernel, rfl, by decide +kernel, by decide +kernel⟩
theorem ok_graph_text (W : Wd mg) (h_look_at_graph : Has P w K mg base 6 "look_at_graph" P_look_at_graph sp_look_at_graph) (h_tuple_text : Has P w K mg base 6 "tuple_text" P_tuple_text sp_tuple_text) {f : Addr} {fd : FuncData} (hf : mg "graph_text" = some (.ref f)) (F : Fun K "graph_text" "graph_text" s_graph_text f fd) : Has P w K mg base 7 "graph_text" P_graph_text sp_graph_text :=
  ⟨f, fd, hf, F.kp, F.binds (ps := P_graph_text) (fun _ _ _ _ _ _ us hl => match us, hl with | [_], _ => rfl), fun_ok F sc_graph_text (fun as A Q h => len_graph_text as A Q h) fun cdv A outer s H E hr => ⟨t_graph_text, (dss_cons (ds_expr (de_has h_look_at_graph hr (by rfl) (da_cons (vv 0) da_nil)))
    (dss_one (ds_ret (de_has h_tuple_text hr (by rfl) (da_cons (vv 0) da_nil))))), fun as AH Q h => rd_graph_text as AH Q h⟩, fun_dat F⟩
theorem okx_graph_text (W : Wd mg) (hx_look_at_graph : HasX P w K mg base 6 "look_at_graph" P_look_at_graph spx_look_at_graph) (h_tuple_text : Has P w K mg base 6 "tuple_text" P_tuple_text sp_tuple_text) {f : Addr} {fd : FuncData} (hf : mg "graph_text" = some (.ref f)) (F : Fun K "graph_text" "graph_text" s_graph_text f fd) : HasX P w K mg base 7 "graph_text" P_graph_text spb_graph_text :=
  ⟨f, fd, hf, F.kp, F.binds (ps := P_graph_text) (fun _ _ _ _ _ _ us hl => match us, hl with | [_], _ => rfl), fun_okX F sc_graph_text (fun as A Q E' h => lnx_graph_text as A Q E' h) fun cdv A outer s H E hr => ⟨tx_graph_text, (dss_cons (ds_exprX (dx_has hx_look_at_graph hr (by rfl) (da_cons (vv 0) da_nil)))
    (dss_one (ds_ret (de_has h_tuple_text hr (by rfl) (da_cons (vv 0) da_nil))))), fun as AH Q E' h => rdx_graph_text as AH Q E' h⟩, fun_dat F⟩
abbrev s_graph_at : Stmt := topS 36
abbrev N_graph_at : List Str := ["graph", "state"]
abbrev P_graph_at : List Str := ["graph", "state"]
theorem sc_graph_at : FnScope N_graph_at P_graph_at (defScope s_graph_at) := ⟨rfl, rfl, rfl, by decide +kernel, rfl, by decide +kernel, by decide +kernel⟩
theorem ok_graph_at (W : Wd mg) (h_need_state : Has P w K mg base 7 "need_state" P_need_state sp_need_state) (h_at_state : Has P w K mg base 2 "at_state" P_at_state sp_at_state) {f : Addr} {fd : FuncData} (hf : mg "graph_at" = some (.ref f)) (F : Fun K "graph_at" "graph_at" s_graph_at f fd) : Has P w K mg base 8 "graph_at" P_graph_at sp_graph_at :=
  ⟨f, fd, hf, F.kp, F.binds (ps := P_graph_at) (fun _ _ _ _ _ _ us hl => match us, hl with | [_, _], _ => rfl), fun_ok F sc_graph_at (fun as A Q h => len_graph_at as A Q h) fun cdv A outer s H E hr => ⟨t_graph_at, (dss_cons (ds_expr (de_has h_need_state hr (by rfl) (da_cons (vv 0) (da_cons (vv 1) da_nil))))
    (dss_one (ds_ret (de_has h_at_state hr (by rfl) (da_cons (vv 0) (da_cons (vv 1) da_nil)))))), fun as AH Q h => rd_graph_at as AH Q h⟩, fun_dat F⟩
theorem okx_graph_at (W : Wd mg) (hx_need_state : HasX P w K mg base 7 "need_state" P_need_state spx_need_state) (h_at_state : Has P w K mg base 2 "at_state" P_at_state sp_at_state) {f : Addr} {fd : FuncData} (hf : mg "graph_at" = some (.ref f)) (F : Fun K "graph_at" "graph_at" s_graph_at f fd) : HasX P w K mg base 8 "graph_at" P_graph_at spb_graph_at :=
  ⟨f, fd, hf, F.kp, F.binds (ps := P_graph_at) (fun _ _ _ _ _ _ us hl => match us, hl with | [_, _], _ => rfl), fun_okX F sc_graph_at (fun as A Q E' h => lnx_graph_at as A Q E' h) fun cdv A outer s H E hr => ⟨tx_graph_at, (dss_cons (ds_exprX (dx_has hx_need_state hr (by rfl) (da_cons (vv 0) (da_cons (vv 1) da_nil))))
    (dss_one (ds_ret (de_has h_at_state hr (by rfl) (da_cons (vv 0) (da_cons (vv 1) da_nil)))))), fun as AH Q E' h => rdx_graph_at as AH Q E' h⟩, fun_dat F⟩
abbrev s_gave : Stmt := topS 49
abbrev N_gave : List Str := ["graph", "line", "count"]
abbrev P_gave : List Str := ["graph", "line", "count"]
theorem sc_gave : FnScope N_gave P_gave (defScope s_gave) := ⟨rfl, rfl, rfl, by decide +kernel, rfl, by decide +kernel, by decide +kernel⟩
theorem ok_gave (W : Wd mg) (h_look_at_line : Has P w K mg base 7 "look_at_line" P_look_at_line sp_look_at_line) (h_need_number : Has P w K mg base 3 "need_number" P_need_number sp_need_number) (h_counted : Has P w K mg base 1 "counted" P_counted sp_counted) {f : Addr} {fd : FuncData} (hf : mg "gave" = some (.ref f)) (F : Fun K "gave" "gave" s_gave f fd) : Has P w K mg base 8 "gave" P_gave sp_gave :=
  ⟨f, fd, hf, F.kp, F.binds (ps := P_gave) (fun _ _ _ _ _ _ us hl => match us, hl with | [_, _, _], _ => rfl), fun_ok F sc_gave (fun as A Q h => len_gave as A Q h) fun cdv A outer s H E hr => ⟨t_gave, (dss_cons (ds_expr (de_has h_look_at_line hr (by rfl) (da_cons (vv 0) (da_cons (vv 1) da_nil))))
    (dss_cons (ds_expr (de_has h_need_number hr (by rfl) (da_cons (vv 2) (da_cons de_int (da_cons (de_globEI (by rfl) W.c_MOST_FIRINGS) da_nil)))))
    (dss_one (ds_ret (de_has h_counted hr (by rfl) (da_cons (ve_ix (hu_of hr.toRoom) (ve_ix (hu_of hr.toRoom) (ve_ix (hu_of hr.toRoom) (vv 0) de_int (fun _ _ => rfl)) (vv 1) (fun _ _ => rfl)) de_int (fun _ _ => rfl)) (da_cons (vv 2) da_nil))))))), fun as AH Q h => rd_gave as AH Q h⟩, fun_dat F⟩
theorem okx_gave (W : Wd mg) (hx_look_at_line : HasX P w K mg base 7 "look_at_line" P_look_at_line spx_look_at_line) (hx_need_number : HasX P w K mg base 3 "need_number" P_need_number spx_need_number) (h_counted : Has P w K mg base 1 "counted" P_counted sp_counted) {f : Addr} {fd : FuncData} (hf : mg "gave" = some (.ref f)) (F : Fun K "gave" "gave" s_gave f fd) : HasX P w K mg base 8 "gave" P_gave spb_gave :=
  ⟨f, fd, hf, F.kp, F.binds (ps := P_gave) (fun _ _ _ _ _ _ us hl => match us, hl with | [_, _, _], _ => rfl), fun_okX F sc_gave (fun as A Q E' h => lnx_gave as A Q E' h) fun cdv A outer s H E hr => ⟨tx_gave, (dss_cons (ds_exprX (dx_has hx_look_at_line hr (by rfl) (da_cons (vv 0) (da_cons (vv 1) da_nil))))
    (dss_cons (ds_exprX (dx_has hx_need_number hr (by rfl) (da_cons (vv 2) (da_cons de_int (da_cons (de_globEI (by rfl) W.c_MOST_FIRINGS) da_nil)))))
    (dss_one (ds_ret (de_has h_counted hr (by rfl) (da_cons (ve_ix (hu_of hr.toRoom) (ve_ix (hu_of hr.toRoom) (ve_ix (hu_of hr.toRoom) (vv 0) de_int (fun _ _ => rfl)) (vv 1) (fun _ _ => rfl)) de_int (fun _ _ => rfl)) (da_cons (vv 2) da_nil))))))), fun as AH Q E' h => rdx_gave as AH Q E' h⟩, fun_dat F⟩
abbrev s_took : Stmt := topS 50
abbrev N_took : List Str := ["graph", "line", "count"]
abbrev P_took : List Str := ["graph", "line", "count"]
theorem sc_took : FnScope N_took P_took (defScope s_took) := ⟨rfl, rfl, rfl, by decide +kernel, rfl, by decide +kernel, by decide +kernel⟩
theorem ok_took (W : Wd mg) (h_look_at_line : Has P w K mg base 7 "look_at_line" P_look_at_line sp_look_at_line) (h_need_number : Has P w K mg base 3 "need_number" P_need_number sp_need_number) (h_counted : Has P w K mg base 1 "counted" P_counted sp_counted) {f : Addr} {fd : FuncData} (hf : mg "took" = some (.ref f)) (F : Fun K "took" "took" s_took f fd) : Has P w K mg base 8 "took" P_took sp_took :=
  ⟨f, fd, hf, F.kp, F.binds (ps := P_took) (fun _ _ _ _ _ _ us hl => match us, hl with | [_, _, _], _ => rfl), fun_ok F sc_took (fun as A Q h => len_took as A Q h) fun cdv A outer s H E hr => ⟨t_took, (dss_cons (ds_expr (de_has h_look_at_line hr (by rfl) (da_cons (vv 0) (da_cons (vv 1) da_nil))))
    (dss_cons (ds_expr (de_has h_need_number hr (by rfl) (da_cons (vv 2) (da_cons de_int (da_cons (de_globEI (by rfl) W.c_MOST_FIRINGS) da_nil)))))
    (dss_one (ds_ret (de_has h_counted hr (by rfl) (da_cons (ve_ix (hu_of hr.toRoom) (ve_ix (hu_of hr.toRoom) (ve_ix (hu_of hr.toRoom) (vv 0) de_int (fun _ _ => rfl)) (vv 1) (fun _ _ => rfl)) de_int (fun _ _ => rfl)) (da_cons (vv 2) da_nil))))))), fun as AH Q h => rd_took as AH Q h⟩, fun_dat F⟩
theorem okx_took (W : Wd mg) (hx_look_at_line : HasX P w K mg base 7 "look_at_line" P_look_at_line spx_look_at_line) (hx_need_number : HasX P w K mg base 3 "need_number" P_need_number spx_need_number) (h_counted : Has P w K mg base 1 "counted" P_counted sp_counted) {f : Addr} {fd : FuncData} (hf : mg "took" = some (.ref f)) (F : Fun K "took" "took" s_took f fd) : HasX P w K mg base 8 "took" P_took spb_took :=
  ⟨f, fd, hf, F.kp, F.binds (ps := P_took) (fun _ _ _ _ _ _ us hl => match us, hl with | [_, _, _], _ => rfl), fun_okX F sc_took (fun as A Q E' h => lnx_took as A Q E' h) fun cdv A outer s H E hr => ⟨tx_took, (dss_cons (ds_exprX (dx_has hx_look_at_line hr (by rfl) (da_cons (vv 0) (da_cons (vv 1) da_nil))))
    (dss_cons (ds_exprX (dx_has hx_need_number hr (by rfl) (da_cons (vv 2) (da_cons de_int (da_cons (de_globEI (by rfl) W.c_MOST_FIRINGS) da_nil)))))
    (dss_one (ds_ret (de_has h_counted hr (by rfl) (da_cons (ve_ix (hu_of hr.toRoom) (ve_ix (hu_of hr.toRoom) (ve_ix (hu_of hr.toRoom) (vv 0) de_int (fun _ _ => rfl)) (vv 1) (fun _ _ => rfl)) de_int (fun _ _ => rfl)) (da_cons (vv 2) da_nil))))))), fun as AH Q E' h => rdx_took as AH Q E' h⟩, fun_dat F⟩
abbrev s_need : Stmt := topS 51
abbrev N_need : List Str := ["graph", "line", "firing"]
abbrev P_need : List Str := ["graph", "line", "firing"]
theorem sc_need : FnScope N_need P_need (defScope s_need) := ⟨rfl, rfl, rfl, by decide +kernel, rfl, by decide +kernel, by decide +kernel⟩
theorem ok_need (W : Wd mg) (h_look_at_line : Has P w K mg base 7 "look_at_line" P_look_at_line sp_look_at_line) (h_need_number : Has P w K mg base 3 "need_number" P_need_number sp_need_number) (h_need_told : Has P w K mg base 2 "need_told" P_need_told sp_need_told) {f : Addr} {fd : FuncData} (hf : mg "need" = some (.ref f)) (F : Fun K "need" "need" s_need f fd) : Has P w K mg base 8 "need" P_need sp_need :=
  ⟨f, fd, hf, F.kp, F.binds (ps := P_need) (fun _ _ _ _ _ _ us hl => match us, hl with | [_, _, _], _ => rfl), fun_ok F sc_need (fun as A Q h => len_need as A Q h) fun cdv A outer s H E hr => ⟨t_need, (dss_cons (ds_expr (de_has h_look_at_line hr (by rfl) (da_cons (vv 0) (da_cons (vv 1) da_nil))))
    (dss_cons (ds_expr (de_has h_need_number hr (by rfl) (da_cons (vv 2) (da_cons de_int (da_cons (de_globEI (by rfl) W.c_MOST_FIRINGS) da_nil)))))
    (dss_one (ds_ret (de_has h_need_told hr (by rfl) (da_cons (ve_ix (hu_of hr.toRoom) (ve_ix (hu_of hr.toRoom) (vv 0) de_int (fun _ _ => rfl)) (vv 1) (fun _ _ => rfl)) (da_cons (vv 2) da_nil))))))), fun as AH Q h => rd_need as AH Q h⟩, fun_dat F⟩
theorem okx_need (W : Wd mg) (hx_look_at_line : HasX P w K mg base 7 "look_at_line" P_look_at_line spx_look_at_line) (hx_need_number : HasX P w K mg base 3 "need_number" P_need_number spx_need_number) (h_need_told : Has P w K mg base 2 "need_told" P_need_told sp_need_told) {f : Addr} {fd : FuncData} (hf : mg "need" = some (.ref f)) (F : Fun K "need" "need" s_need f fd) : HasX P w K mg base 8 "need" P_need spb_need :=
  ⟨f, fd, hf, F.kp, F.binds (ps := P_need) (fun _ _ _ _ _ _ us hl => match us, hl with | [_, _, _], _ => rfl), fun_okX F sc_need (fun as A Q E' h => lnx_need as A Q E' h) fun cdv A outer s H E hr => ⟨tx_need, (dss_cons (ds_exprX (dx_has hx_look_at_line hr (by rfl) (da_cons (vv 0) (da_cons (vv 1) da_nil))))
    (dss_cons (ds_exprX (dx_has hx_need_number hr (by rfl) (da_cons (vv 2) (da_cons de_int (da_cons (de_globEI (by rfl) W.c_MOST_FIRINGS) da_nil)))))
    (dss_one (ds_ret (de_has h_need_told hr (by rfl) (da_cons (ve_ix (hu_of hr.toRoom) (ve_ix (hu_of hr.toRoom) (vv 0) de_int (fun _ _ => rfl)) (vv 1) (fun _ _ => rfl)) (da_cons (vv 2) da_nil))))))), fun as AH Q E' h => rdx_need as AH Q E' h⟩, fun_dat F⟩
abbrev s__law_called : Stmt := topS 71
abbrev N__law_called : List Str := ["turn", "graph"]
abbrev P__law_called : List Str := ["turn", "graph"]
theorem sc__law_called : FnScope N__law_called P__law_called (defScope s__law_called) := ⟨rfl, rfl, rfl, by decide +kernel, rfl, by decide +kernel, by decide +kernel⟩
theorem ok__law_called (W : Wd mg) (h_need_graph : Has P w K mg base 7 "need_graph" P_need_graph sp_need_graph) (h_first_state : Has P w K mg base 7 "first_state" P_first_state sp_first_state) (h_graph_text : Has P w K mg base 7 "graph_text" P_graph_text sp_graph_text) (h_need_state : Has P w K mg base 7 "need_state" P_need_state sp_need_state) (h_graph_at : Has P w K mg base 8 "graph_at" P_graph_at sp_graph_at) (h_can_fire : Has P w K mg base 7 "can_fire" P_can_fire sp_can_fire) (h_fired : Has P w K mg base 7 "fired" P_fired sp_fired) (h_gave : Has P w K mg base 8 "gave" P_gave sp_gave) (h_took : Has P w K mg base 8 "took" P_took sp_took) (h_need : Has P w K mg base 8 "need" P_need sp_need) {f : Addr} {fd : FuncData} (hf : mg "_law_called" = some (.ref f)) (F : Fun K "_law_called" "_law_called" s__law_called f fd) : Has P w K mg base 9 "_law_called" P__law_called sp__law_called :=
  ⟨f, fd, hf, F.kp, F.binds (ps := P__law_called) (fun _ _ _ _ _ _ us hl => match us, hl with | [_, _], _ => rfl), fun_ok F sc__law_called (fun as A Q h => len__law_called as A Q h) fun cdv A outer s H E hr => ⟨t__law_called, (dss_one (ds_if (vt_cmp (ci_eq hr.units) (vv 0) de_int (nomark _))
      (dss_one (ds_expr (de_has h_need_graph hr (by rfl) (da_cons (vv 1) da_nil))))
      (dss_one (ds_if (vt_cmp (ci_eq hr.units) (vv 0) de_int (nomark _))
        (dss_one (ds_expr (de_has h_first_state hr (by rfl) (da_cons (vv 1) da_nil))))
        (dss_one (ds_if (vt_cmp (ci_eq hr.units) (vv 0) de_int (nomark _))
          (dss_one (ds_expr (de_has h_graph_text hr (by rfl) (da_cons (vv 1) da_nil))))
          (dss_one (ds_if (vt_cmp (ci_eq hr.units) (vv 0) de_int (nomark _))
            (dss_one (ds_expr (de_has h_need_state hr (by rfl) (da_cons (vv 1) (da_cons de_int da_nil)))))
            (dss_one (ds_if (vt_cmp (ci_eq hr.units) (vv 0) de_int (nomark _))
              (dss_one (ds_expr (de_has h_graph_at hr (by rfl) (da_cons (vv 1) (da_cons de_int da_nil)))))
              (dss_one (ds_if (vt_cmp (ci_eq hr.units) (vv 0) de_int (nomark _))
                (dss_one (ds_expr (de_has h_can_fire hr (by rfl) (da_cons (vv 1) (da_cons de_int da_nil)))))
                (dss_one (ds_if (vt_cmp (ci_eq hr.units) (vv 0) de_int (nomark _))
                  (dss_one (ds_expr (de_has h_fired hr (by rfl) (da_cons (vv 1) (da_cons de_int (da_cons de_int da_nil))))))
                  (dss_one (ds_if (vt_cmp (ci_eq hr.units) (vv 0) de_int (nomark _))
                    (dss_one (ds_expr (de_has h_gave hr (by rfl) (da_cons (vv 1) (da_cons (ve_neg de_int) (da_cons (ve_neg de_int) da_nil))))))
                    (dss_one (ds_if (vt_cmp (ci_eq hr.units) (vv 0) de_int (nomark _))
                      (dss_one (ds_expr (de_has h_took hr (by rfl) (da_cons (vv 1) (da_cons (ve_neg de_int) (da_cons (ve_neg de_int) da_nil))))))
                      (dss_one (ds_expr (de_has h_need hr (by rfl) (da_cons (vv 1) (da_cons (ve_neg de_int) (da_cons (ve_neg de_int) da_nil)))))))))))))))))))))))), fun as AH Q h => rd__law_called as AH Q h⟩, fun_dat F⟩
theorem okx__law_called (W : Wd mg) (hx_need_graph : HasX P w K mg base 7 "need_graph" P_need_graph spx_need_graph) (hx_first_state : HasX P w K mg base 7 "first_state" P_first_state spx_first_state) (hx_graph_text : HasX P w K mg base 7 "graph_text" P_graph_text spx_graph_text) (hx_need_state : HasX P w K mg base 7 "need_state" P_need_state spx_need_state) (hx_graph_at : HasX P w K mg base 8 "graph_at" P_graph_at spx_graph_at) (hx_can_fire : HasX P w K mg base 7 "can_fire" P_can_fire spx_can_fire) (hx_fired : HasX P w K mg base 7 "fired" P_fired spx_fired) (hx_gave : HasX P w K mg base 8 "gave" P_gave spx_gave) (hx_took : HasX P w K mg base 8 "took" P_took spx_took) (hx_need : HasX P w K mg base 8 "need" P_need spx_need) {f : Addr} {fd : FuncData} (hf : mg "_law_called" = some (.ref f)) (F : Fun K "_law_called" "_law_called" s__law_called f fd) : HasX P w K mg base 9 "_law_called" P__law_called spb__law_called :=
  ⟨f, fd, hf, F.kp, F.binds (ps := P__law_called) (fun _ _ _ _ _ _ us hl => match us, hl with | [_, _], _ => rfl), fun_okX F sc__law_called (fun as A Q E' h => lnx__law_called as A Q E' h) fun cdv A outer s H E hr => ⟨tx__law_called, (dss_one (ds_if (vt_cmp (ci_eq hr.units) (vv 0) de_int (nomark _))
      (dss_one (ds_exprX (dx_has hx_need_graph hr (by rfl) (da_cons (vv 1) da_nil))))
      (dss_one (ds_if (vt_cmp (ci_eq hr.units) (vv 0) de_int (nomark _))
        (dss_one (ds_exprX (dx_has hx_first_state hr (by rfl) (da_cons (vv 1) da_nil))))
        (dss_one (ds_if (vt_cmp (ci_eq hr.units) (vv 0) de_int (nomark _))
          (dss_one (ds_exprX (dx_has hx_graph_text hr (by rfl) (da_cons (vv 1) da_nil))))
          (dss_one (ds_if (vt_cmp (ci_eq hr.units) (vv 0) de_int (nomark _))
            (dss_one (ds_exprX (dx_has hx_need_state hr (by rfl) (da_cons (vv 1) (da_cons de_int da_nil)))))
            (dss_one (ds_if (vt_cmp (ci_eq hr.units) (vv 0) de_int (nomark _))
              (dss_one (ds_exprX (dx_has hx_graph_at hr (by rfl) (da_cons (vv 1) (da_cons de_int da_nil)))))
              (dss_one (ds_if (vt_cmp (ci_eq hr.units) (vv 0) de_int (nomark _))
                (dss_one (ds_exprX (dx_has hx_can_fire hr (by rfl) (da_cons (vv 1) (da_cons de_int da_nil)))))
                (dss_one (ds_if (vt_cmp (ci_eq hr.units) (vv 0) de_int (nomark _))
                  (dss_one (ds_exprX (dx_has hx_fired hr (by rfl) (da_cons (vv 1) (da_cons de_int (da_cons de_int da_nil))))))
                  (dss_one (ds_if (vt_cmp (ci_eq hr.units) (vv 0) de_int (nomark _))
                    (dss_one (ds_exprX (dx_has hx_gave hr (by rfl) (da_cons (vv 1) (da_cons (ve_neg de_int) (da_cons (ve_neg de_int) da_nil))))))
                    (dss_one (ds_if (vt_cmp (ci_eq hr.units) (vv 0) de_int (nomark _))
                      (dss_one (ds_exprX (dx_has hx_took hr (by rfl) (da_cons (vv 1) (da_cons (ve_neg de_int) (da_cons (ve_neg de_int) da_nil))))))
                      (dss_one (ds_exprX (dx_has hx_need hr (by rfl) (da_cons (vv 1) (da_cons (ve_neg de_int) (da_cons (ve_neg de_int) da_nil)))))))))))))))))))))))), fun as AH Q E' h => rdx__law_called as AH Q E' h⟩, fun_dat F⟩
abbrev s__law_refused : Stmt := topS 72
abbrev N__law_refused : List Str := ["turn", "graph", "e"]
abbrev P__law_refused : List Str := ["turn", "graph"]
theorem sc__law_refused : FnScope N__law_refused P__law_refused (defScope s__law_refused) := ⟨rfl, rfl, rfl, by decide +kernel, rfl, by decide +kernel, by decide +kernel⟩
theorem ok__law_refused (W : Wd mg) (hx__law_called : HasX P w K mg base 9 "_law_called" P__law_called spx__law_called) (ef : ErrFld K mg ["BadName", "BadNumber", "BadFiring", "BadGraph", "BadState"] ["place", "value"]) {v_RateError : Value} (c_RateError : ErrCls K mg ["BadName", "BadNumber", "BadFiring", "BadGraph", "BadState"] "RateError" v_RateError) {v_BadGraph : Value} (c_BadGraph : ErrCls K mg ["BadName", "BadNumber", "BadFiring", "BadGraph", "BadState"] "BadGraph" v_BadGraph) {f : Addr} {fd : FuncData} (hf : mg "_law_refused" = some (.ref f)) (F : Fun K "_law_refused" "_law_refused" s__law_refused f fd) : Has P w K mg base 10 "_law_refused" P__law_refused sp__law_refused :=
  ⟨f, fd, hf, F.kp, F.binds (ps := P__law_refused) (fun _ _ _ _ _ _ us hl => match us, hl with | [_, _], _ => rfl), fun_ok F sc__law_refused (fun as A Q h => len__law_refused as A Q h) fun cdv A outer s H E hr => ⟨t__law_refused, (dss_cons (ds_try rfl rfl sc__law_refused.nd (fun pn xe own => (dss_one (ds_exprX (dx_has hx__law_called hr (by rfl) (da_cons (vv 0) (da_cons (vv 1) da_nil))))))
      (.named (i := 2) (c_BadGraph.at (by rfl) (by decide)) rfl rfl (fun a d oe n C pn hn hm hz hf => (dss_one (ds_ret (de_xf (ef hn hm).1 ((ef hn hm).2 "place" (by decide)) hz hf (vv 2)))))
      (.plain (c_RateError.at (by rfl) (by decide)) (fun a d oe n C pn hn hm hz hf => (dss_one (ds_ret de_non)))
      .nil)))
    (dss_one (ds_ret de_non))), fun as AH Q h => rd__law_refused as AH Q h⟩, fun_dat F⟩
abbrev s_law : Stmt := topS 73
abbrev N_law : List Str := ["script", "m", "graph", "good", "turn", "wrongs", "shift", "at"]
abbrev P_law : List Str := ["script"]
theorem sc_law : FnScope N_law P_law (defScope s_law) := ⟨rfl, rfl, rfl, by decide +kernel, rfl, by decide +kernel, by decide +kernel⟩
theorem ok_law (W : Wd mg) (h__law_begun : Has P w K mg base 1 "_law_begun" P__law_begun sp__law_begun) (h__law_next : Has P w K mg base 1 "_law_next" P__law_next sp__law_next) (h__law_graph : Has P w K mg base 4 "_law_graph" P__law_graph sp__law_graph) (h__law_bent : Has P w K mg base 2 "_law_bent" P__law_bent sp__law_bent) (h__law_edge : Has P w K mg base 2 "_law_edge" P__law_edge sp__law_edge) (h__law_refused : Has P w K mg base 10 "_law_refused" P__law_refused sp__law_refused) (h_first_state : Has P w K mg base 7 "first_state" P_first_state sp_first_state) (h__law_first : Has P w K mg base 1 "_law_first" P__law_first sp__law_first) (h_need_graph : Has P w K mg base 7 "need_graph" P_need_graph sp_need_graph) (h__law_wrongs : Has P w K mg base 2 "_law_wrongs" P__law_wrongs sp__law_wrongs) {f : Addr} {fd : FuncData} (hf : mg "law" = some (.ref f)) (F : Fun K "law" "law" s_law f fd) : Has P w K mg base 11 "law" P_law sp_law :=
  ⟨f, fd, hf, F.kp, F.binds (ps := P_law) (fun _ _ _ _ _ _ us hl => match us, hl with | [_], _ => rfl), fun_ok F sc_law (fun as A Q h => len_law as A Q h) fun cdv A outer s H E hr => ⟨t_law, (dss_cons (ds_set (i := 1) sc_law.nd rfl (.inl rfl) (de_has h__law_begun hr (by rfl) (da_cons (vv 0) da_nil)))
    (dss_cons (ds_set (i := 2) sc_law.nd rfl (.inl rfl) (de_has h__law_graph hr (by rfl) (da_cons (vv 1) (da_cons (de_op o_add de_int (de_has h__law_next hr (by rfl) (da_cons (vv 1) (da_cons de_int da_nil)))) (da_cons de_int (da_cons de_int da_nil))))))
    (dss_cons (wd_for PassesOwn.never rfl (dj_sq (de_tup (da_cons (vv 2) (da_cons (de_has h__law_edge hr (by rfl) (da_cons (vv 1) da_nil)) (da_cons (de_has h__law_bent hr (by rfl) (da_cons (vv 1) (da_cons (vv 2) da_nil))) da_nil))))) (pg_name (i := 3) sc_law.nd rfl (.inl rfl)) gl_name
      (dss_cons (wd_for PassesOwn.never rfl (dj_rg1 (by rfl) W.n_range (da_cons de_int da_nil)) (pg_name (i := 4) sc_law.nd rfl (.inl rfl)) gl_name
        (dss_one (ds_if (vt_cmp c_isnot (de_has h__law_refused hr (by rfl) (da_cons (vv 4) (da_cons (vv 3) da_nil))) de_non (nomark _))
          (dss_one (ds_ret de_bl))
          dss_nil)))
      (dss_one (ds_if (DW.dt (dw_or (vt_cmp c_isnot (de_has h_need_graph hr (by rfl) (da_cons (vv 3) da_nil)) de_non (nomark _)) (dw_or1 (vt_cmp (ci_ne hr.units) (de_has h_first_state hr (by rfl) (da_cons (vv 3) da_nil)) (de_has h__law_first hr (by rfl) (da_cons (vv 3) da_nil)) (nomark _)))))
        (dss_one (ds_ret de_bl))
        dss_nil))))
    (dss_cons (wd_par (i := 5) (j := 6) rfl sc_law.nd rfl rfl (by decide) rfl rfl (da_cons (de_has h__law_wrongs hr (by rfl) (da_cons (vv 2) da_nil)) (da_cons (de_has h__law_next hr (by rfl) (da_cons (vv 1) (da_cons de_int da_nil))) da_nil)) rfl)
    (dss_cons (wd_for PassesOwn.never rfl (dj_rg1 (by rfl) W.n_range (da_cons (de_callB w_len (by rfl) W.n_len (by decide +kernel) (da_cons (vv 5) da_nil)) da_nil)) (pg_name (i := 7) sc_law.nd rfl (.inl rfl)) gl_name
      (dss_one (wd_for PassesOwn.never rfl (dj_rg1 (by rfl) W.n_range (da_cons de_int da_nil)) (pg_name (i := 4) sc_law.nd rfl (.inl rfl)) gl_name
        (dss_one (ds_if (DW.dt (dw_and (DW.dt (dw_or (vt_cmp (ci_eq hr.units) (vv 4) de_int (nomark _)) (dw_or1 (vt_cmp (ci_eq hr.units) (de_op o_mod (de_callT t_int (by rfl) W.n_int (by decide +kernel) (da_cons (de_op o_add (de_op o_add (vv 4) (vv 7)) (vv 6)) da_nil)) de_int) de_int (nomark _))))) (dw_and1 (vt_cmp (ci_ne hr.units) (de_has h__law_refused hr (by rfl) (da_cons (vv 4) (da_cons (ve_ix (hu_of hr.toRoom) (ve_ix (hu_of hr.toRoom) (vv 5) (vv 7) (fun _ _ => rfl)) de_int (fun _ _ => rfl)) da_nil))) (ve_ix (hu_of hr.toRoom) (ve_ix (hu_of hr.toRoom) (vv 5) (vv 7) (fun _ _ => rfl)) de_int (fun _ _ => rfl)) (nomark _)))))
          (dss_one (ds_ret de_bl))
          dss_nil)))))
    (dss_one (ds_ret de_bl))))))), fun as AH Q h => rd_law as AH Q h⟩, fun_dat F⟩
theorem okf_law (W : Wd mg) (h__law_begun : Has P w K mg base 1 "_law_begun" P__law_begun sp__law_begun) (h__law_next : Has P w K mg base 1 "_law_next" P__law_next sp__law_next) (h__law_graph : Has P w K mg base 4 "_law_graph" P__law_graph sp__law_graph) (h__law_bent : Has P w K mg base 2 "_law_bent" P__law_bent sp__law_bent) (h__law_edge : Has P w K mg base 2 "_law_edge" P__law_edge sp__law_edge) (h__law_refused : Has P w K mg base 10 "_law_refused" P__law_refused sp__law_refused) (h_first_state : Has P w K mg base 7 "first_state" P_first_state sp_first_state) (h__law_first : Has P w K mg base 1 "_law_first" P__law_first sp__law_first) (h_need_graph : Has P w K mg base 7 "need_graph" P_need_graph sp_need_graph) (h__law_wrongs : Has P w K mg base 2 "_law_wrongs" P__law_wrongs sp__law_wrongs) {f : Addr} {fd : FuncData} (hf : mg "law" = some (.ref f)) (F : Fun K "law" "law" s_law f fd) : FnG P w K mg base 11 f fd P_law (lfSp K sp_law) :=
  fun_ok F sc_law (fun as A Q h => len_law as A Q h) fun cdv A outer s H E hr => ⟨t_law, (dss_cons (ds_set (i := 1) sc_law.nd rfl (.inl rfl) (de_has h__law_begun hr (by rfl) (da_cons (vv 0) da_nil)))
    (dss_cons (ds_set (i := 2) sc_law.nd rfl (.inl rfl) (de_has h__law_graph hr (by rfl) (da_cons (vv 1) (da_cons (de_op o_add de_int (de_has h__law_next hr (by rfl) (da_cons (vv 1) (da_cons de_int da_nil)))) (da_cons de_int (da_cons de_int da_nil))))))
    (dss_cons (wd_for PassesOwn.never rfl (dj_sq (de_tup (da_cons (vv 2) (da_cons (de_has h__law_edge hr (by rfl) (da_cons (vv 1) da_nil)) (da_cons (de_has h__law_bent hr (by rfl) (da_cons (vv 1) (da_cons (vv 2) da_nil))) da_nil))))) (pg_name (i := 3) sc_law.nd rfl (.inl rfl)) gl_name
      (dss_cons (wd_for PassesOwn.never rfl (dj_rg1 (by rfl) W.n_range (da_cons de_int da_nil)) (pg_name (i := 4) sc_law.nd rfl (.inl rfl)) gl_name
        (dss_one (ds_if (vt_cmp c_isnot (de_has h__law_refused hr (by rfl) (da_cons (vv 4) (da_cons (vv 3) da_nil))) de_non (nomark _))
          (dss_one (ds_ret de_bl))
          dss_nil)))
      (dss_one (ds_if (DW.dt (dw_or (vt_cmp c_isnot (de_has h_need_graph hr (by rfl) (da_cons (vv 3) da_nil)) de_non (nomark _)) (dw_or1 (vt_cmp (ci_ne hr.units) (de_has h_first_state hr (by rfl) (da_cons (vv 3) da_nil)) (de_has h__law_first hr (by rfl) (da_cons (vv 3) da_nil)) (nomark _)))))
        (dss_one (ds_ret de_bl))
        dss_nil))))
    (dss_cons (wd_par (i := 5) (j := 6) rfl sc_law.nd rfl rfl (by decide) rfl rfl (da_cons (de_has h__law_wrongs hr (by rfl) (da_cons (vv 2) da_nil)) (da_cons (de_has h__law_next hr (by rfl) (da_cons (vv 1) (da_cons de_int da_nil))) da_nil)) rfl)
    (dss_cons (wd_for PassesOwn.never rfl (dj_rg1 (by rfl) W.n_range (da_cons (de_callB w_len (by rfl) W.n_len (by decide +kernel) (da_cons (vv 5) da_nil)) da_nil)) (pg_name (i := 7) sc_law.nd rfl (.inl rfl)) gl_name
      (dss_one (wd_for PassesOwn.never rfl (dj_rg1 (by rfl) W.n_range (da_cons de_int da_nil)) (pg_name (i := 4) sc_law.nd rfl (.inl rfl)) gl_name
        (dss_one (ds_if (DW.dt (dw_and (DW.dt (dw_or (vt_cmp (ci_eq hr.units) (vv 4) de_int (nomark _)) (dw_or1 (vt_cmp (ci_eq hr.units) (de_op o_mod (de_callT t_int (by rfl) W.n_int (by decide +kernel) (da_cons (de_op o_add (de_op o_add (vv 4) (vv 7)) (vv 6)) da_nil)) de_int) de_int (nomark _))))) (dw_and1 (vt_cmp (ci_ne hr.units) (de_has h__law_refused hr (by rfl) (da_cons (vv 4) (da_cons (ve_ix (hu_of hr.toRoom) (ve_ix (hu_of hr.toRoom) (vv 5) (vv 7) (fun _ _ => rfl)) de_int (fun _ _ => rfl)) da_nil))) (ve_ix (hu_of hr.toRoom) (ve_ix (hu_of hr.toRoom) (vv 5) (vv 7) (fun _ _ => rfl)) de_int (fun _ _ => rfl)) (nomark _)))))
          (dss_one (ds_ret de_bl))
          dss_nil)))))
    (dss_one (ds_ret de_bl))))))), fun as AH Q h => rd_law as AH Q h⟩
end
theorem all_mk {l : PySem.W.OpenLaw} {w : World} {K : PySem.W.Frag} {h : Heap} {mg : Str → Option Value} {fa : Addr} (X : K.In h) (G : h.Ns mainGlobals mg) (hfa : mg "law" = some (.ref fa))
    {f0 : Addr} {od0 an0 : Option Addr} {sl0 : Array (Option Value)} {oc0 kV0 dc0 pm0 cd0 ct0 : Value}
    (a0 : PySem.W.nsIn K mainGlobals "is_whole" = some (some (.ref f0))) (l0 : K.lookup f0 = some ⟨oc0, od0, .func (PySem.W.fnOf "is_whole" "is_whole" (defArgs s_is_whole) (defBody s_is_whole) (defScope s_is_whole) .none kV0 dc0 pm0 an0 cd0 ct0), sl0⟩) (c0 : PySem.W.codeIn K cd0 "is_whole" = true) (k0 : PySem.W.keepIn K (.ref f0) = true)
    {f1 : Addr} {od1 an1 : Option Addr} {sl1 : Array (Option Value)} {oc1 kV1 dc1 pm1 cd1 ct1 : Value}
    (a1 : PySem.W.nsIn K mainGlobals "is_tuple_of" = some (some (.ref f1))) (l1 : K.lookup f1 = some ⟨oc1, od1, .func (PySem.W.fnOf "is_tuple_of" "is_tuple_of" (defArgs s_is_tuple_of) (defBody s_is_tuple_of) (defScope s_is_tuple_of) .none kV1 dc1 pm1 an1 cd1 ct1), sl1⟩) (c1 : PySem.W.codeIn K cd1 "is_tuple_of" = true) (k1 : PySem.W.keepIn K (.ref f1) = true)
    {f2 : Addr} {od2 an2 : Option Addr} {sl2 : Array (Option Value)} {oc2 kV2 dc2 pm2 cd2 ct2 : Value}
    (a2 : PySem.W.nsIn K mainGlobals "is_name" = some (some (.ref f2))) (l2 : K.lookup f2 = some ⟨oc2, od2, .func (PySem.W.fnOf "is_name" "is_name" (defArgs s_is_name) (defBody s_is_name) (defScope s_is_name) .none kV2 dc2 pm2 an2 cd2 ct2), sl2⟩) (c2 : PySem.W.codeIn K cd2 "is_name" = true) (k2 : PySem.W.keepIn K (.ref f2) = true)
    {f3 : Addr} {od3 an3 : Option Addr} {sl3 : Array (Option Value)} {oc3 kV3 dc3 pm3 cd3 ct3 : Value}
    (a3 : PySem.W.nsIn K mainGlobals "task_names" = some (some (.ref f3))) (l3 : K.lookup f3 = some ⟨oc3, od3, .func (PySem.W.fnOf "task_names" "task_names" (defArgs s_task_names) (defBody s_task_names) (defScope s_task_names) .none kV3 dc3 pm3 an3 cd3 ct3), sl3⟩) (c3 : PySem.W.codeIn K cd3 "task_names" = true) (k3 : PySem.W.keepIn K (.ref f3) = true)
    {f4 : Addr} {od4 an4 : Option Addr} {sl4 : Array (Option Value)} {oc4 kV4 dc4 pm4 cd4 ct4 : Value}
    (a4 : PySem.W.nsIn K mainGlobals "fits" = some (some (.ref f4))) (l4 : K.lookup f4 = some ⟨oc4, od4, .func (PySem.W.fnOf "fits" "fits" (defArgs s_fits) (defBody s_fits) (defScope s_fits) .none kV4 dc4 pm4 an4 cd4 ct4), sl4⟩) (c4 : PySem.W.codeIn K cd4 "fits" = true) (k4 : PySem.W.keepIn K (.ref f4) = true)
    {f5 : Addr} {od5 an5 : Option Addr} {sl5 : Array (Option Value)} {oc5 kV5 dc5 pm5 cd5 ct5 : Value}
    (a5 : PySem.W.nsIn K mainGlobals "beginning" = some (some (.ref f5))) (l5 : K.lookup f5 = some ⟨oc5, od5, .func (PySem.W.fnOf "beginning" "beginning" (defArgs s_beginning) (defBody s_beginning) (defScope s_beginning) .none kV5 dc5 pm5 an5 cd5 ct5), sl5⟩) (c5 : PySem.W.codeIn K cd5 "beginning" = true) (k5 : PySem.W.keepIn K (.ref f5) = true)
    {f6 : Addr} {od6 an6 : Option Addr} {sl6 : Array (Option Value)} {oc6 kV6 dc6 pm6 cd6 ct6 : Value}
    (a6 : PySem.W.nsIn K mainGlobals "turned" = some (some (.ref f6))) (l6 : K.lookup f6 = some ⟨oc6, od6, .func (PySem.W.fnOf "turned" "turned" (defArgs s_turned) (defBody s_turned) (defScope s_turned) .none kV6 dc6 pm6 an6 cd6 ct6), sl6⟩) (c6 : PySem.W.codeIn K cd6 "turned" = true) (k6 : PySem.W.keepIn K (.ref f6) = true)
    {f7 : Addr} {od7 an7 : Option Addr} {sl7 : Array (Option Value)} {oc7 kV7 dc7 pm7 cd7 ct7 : Value}
    (a7 : PySem.W.nsIn K mainGlobals "counted" = some (some (.ref f7))) (l7 : K.lookup f7 = some ⟨oc7, od7, .func (PySem.W.fnOf "counted" "counted" (defArgs s_counted) (defBody s_counted) (defScope s_counted) .none kV7 dc7 pm7 an7 cd7 ct7), sl7⟩) (c7 : PySem.W.codeIn K cd7 "counted" = true) (k7 : PySem.W.keepIn K (.ref f7) = true)
    {f8 : Addr} {od8 an8 : Option Addr} {sl8 : Array (Option Value)} {oc8 kV8 dc8 pm8 cd8 ct8 : Value}
    (a8 : PySem.W.nsIn K mainGlobals "least_count" = some (some (.ref f8))) (l8 : K.lookup f8 = some ⟨oc8, od8, .func (PySem.W.fnOf "least_count" "least_count" (defArgs s_least_count) (defBody s_least_count) (defScope s_least_count) .none kV8 dc8 pm8 an8 cd8 ct8), sl8⟩) (c8 : PySem.W.codeIn K cd8 "least_count" = true) (k8 : PySem.W.keepIn K (.ref f8) = true)
    {f9 : Addr} {od9 an9 : Option Addr} {sl9 : Array (Option Value)} {oc9 kV9 dc9 pm9 cd9 ct9 : Value}
    (a9 : PySem.W.nsIn K mainGlobals "is_ready" = some (some (.ref f9))) (l9 : K.lookup f9 = some ⟨oc9, od9, .func (PySem.W.fnOf "is_ready" "is_ready" (defArgs s_is_ready) (defBody s_is_ready) (defScope s_is_ready) .none kV9 dc9 pm9 an9 cd9 ct9), sl9⟩) (c9 : PySem.W.codeIn K cd9 "is_ready" = true) (k9 : PySem.W.keepIn K (.ref f9) = true)
    {f10 : Addr} {od10 an10 : Option Addr} {sl10 : Array (Option Value)} {oc10 kV10 dc10 pm10 cd10 ct10 : Value}
    (a10 : PySem.W.nsIn K mainGlobals "fire" = some (some (.ref f10))) (l10 : K.lookup f10 = some ⟨oc10, od10, .func (PySem.W.fnOf "fire" "fire" (defArgs s_fire) (defBody s_fire) (defScope s_fire) .none kV10 dc10 pm10 an10 cd10 ct10), sl10⟩) (c10 : PySem.W.codeIn K cd10 "fire" = true) (k10 : PySem.W.keepIn K (.ref f10) = true)
    {f11 : Addr} {od11 an11 : Option Addr} {sl11 : Array (Option Value)} {oc11 kV11 dc11 pm11 cd11 ct11 : Value}
    (a11 : PySem.W.nsIn K mainGlobals "_law_begun" = some (some (.ref f11))) (l11 : K.lookup f11 = some ⟨oc11, od11, .func (PySem.W.fnOf "_law_begun" "_law_begun" (defArgs s__law_begun) (defBody s__law_begun) (defScope s__law_begun) .none kV11 dc11 pm11 an11 cd11 ct11), sl11⟩) (c11 : PySem.W.codeIn K cd11 "_law_begun" = true) (k11 : PySem.W.keepIn K (.ref f11) = true)
    {f12 : Addr} {od12 an12 : Option Addr} {sl12 : Array (Option Value)} {oc12 kV12 dc12 pm12 cd12 ct12 : Value}
    (a12 : PySem.W.nsIn K mainGlobals "_law_next" = some (some (.ref f12))) (l12 : K.lookup f12 = some ⟨oc12, od12, .func (PySem.W.fnOf "_law_next" "_law_next" (defArgs s__law_next) (defBody s__law_next) (defScope s__law_next) .none kV12 dc12 pm12 an12 cd12 ct12), sl12⟩) (c12 : PySem.W.codeIn K cd12 "_law_next" = true) (k12 : PySem.W.keepIn K (.ref f12) = true)
    {f13 : Addr} {od13 an13 : Option Addr} {sl13 : Array (Option Value)} {oc13 kV13 dc13 pm13 cd13 ct13 : Value}
    (a13 : PySem.W.nsIn K mainGlobals "_law_gcd" = some (some (.ref f13))) (l13 : K.lookup f13 = some ⟨oc13, od13, .func (PySem.W.fnOf "_law_gcd" "_law_gcd" (defArgs s__law_gcd) (defBody s__law_gcd) (defScope s__law_gcd) .none kV13 dc13 pm13 an13 cd13 ct13), sl13⟩) (c13 : PySem.W.codeIn K cd13 "_law_gcd" = true) (k13 : PySem.W.keepIn K (.ref f13) = true)
    {f14 : Addr} {od14 an14 : Option Addr} {sl14 : Array (Option Value)} {oc14 kV14 dc14 pm14 cd14 ct14 : Value}
    (a14 : PySem.W.nsIn K mainGlobals "_law_first" = some (some (.ref f14))) (l14 : K.lookup f14 = some ⟨oc14, od14, .func (PySem.W.fnOf "_law_first" "_law_first" (defArgs s__law_first) (defBody s__law_first) (defScope s__law_first) .none kV14 dc14 pm14 an14 cd14 ct14), sl14⟩) (c14 : PySem.W.codeIn K cd14 "_law_first" = true) (k14 : PySem.W.keepIn K (.ref f14) = true)
    {f15 : Addr} {od15 an15 : Option Addr} {sl15 : Array (Option Value)} {oc15 kV15 dc15 pm15 cd15 ct15 : Value}
    (a15 : PySem.W.nsIn K mainGlobals "_law_wrong_tasks" = some (some (.ref f15))) (l15 : K.lookup f15 = some ⟨oc15, od15, .func (PySem.W.fnOf "_law_wrong_tasks" "_law_wrong_tasks" (defArgs s__law_wrong_tasks) (defBody s__law_wrong_tasks) (defScope s__law_wrong_tasks) .none kV15 dc15 pm15 an15 cd15 ct15), sl15⟩) (c15 : PySem.W.codeIn K cd15 "_law_wrong_tasks" = true) (k15 : PySem.W.keepIn K (.ref f15) = true)
    {f16 : Addr} {od16 an16 : Option Addr} {sl16 : Array (Option Value)} {oc16 kV16 dc16 pm16 cd16 ct16 : Value}
    (a16 : PySem.W.nsIn K mainGlobals "_law_wrong_lines" = some (some (.ref f16))) (l16 : K.lookup f16 = some ⟨oc16, od16, .func (PySem.W.fnOf "_law_wrong_lines" "_law_wrong_lines" (defArgs s__law_wrong_lines) (defBody s__law_wrong_lines) (defScope s__law_wrong_lines) .none kV16 dc16 pm16 an16 cd16 ct16), sl16⟩) (c16 : PySem.W.codeIn K cd16 "_law_wrong_lines" = true) (k16 : PySem.W.keepIn K (.ref f16) = true)
    {f17 : Addr} {od17 an17 : Option Addr} {sl17 : Array (Option Value)} {oc17 kV17 dc17 pm17 cd17 ct17 : Value}
    (a17 : PySem.W.nsIn K mainGlobals "is_between" = some (some (.ref f17))) (l17 : K.lookup f17 = some ⟨oc17, od17, .func (PySem.W.fnOf "is_between" "is_between" (defArgs s_is_between) (defBody s_is_between) (defScope s_is_between) .none kV17 dc17 pm17 an17 cd17 ct17), sl17⟩) (c17 : PySem.W.codeIn K cd17 "is_between" = true) (k17 : PySem.W.keepIn K (.ref f17) = true)
    {f18 : Addr} {od18 an18 : Option Addr} {sl18 : Array (Option Value)} {oc18 kV18 dc18 pm18 cd18 ct18 : Value}
    (a18 : PySem.W.nsIn K mainGlobals "task_number" = some (some (.ref f18))) (l18 : K.lookup f18 = some ⟨oc18, od18, .func (PySem.W.fnOf "task_number" "task_number" (defArgs s_task_number) (defBody s_task_number) (defScope s_task_number) .none kV18 dc18 pm18 an18 cd18 ct18), sl18⟩) (c18 : PySem.W.codeIn K cd18 "task_number" = true) (k18 : PySem.W.keepIn K (.ref f18) = true)
    {f19 : Addr} {od19 an19 : Option Addr} {sl19 : Array (Option Value)} {oc19 kV19 dc19 pm19 cd19 ct19 : Value}
    (a19 : PySem.W.nsIn K mainGlobals "at_state" = some (some (.ref f19))) (l19 : K.lookup f19 = some ⟨oc19, od19, .func (PySem.W.fnOf "at_state" "at_state" (defArgs s_at_state) (defBody s_at_state) (defScope s_at_state) .none kV19 dc19 pm19 an19 cd19 ct19), sl19⟩) (c19 : PySem.W.codeIn K cd19 "at_state" = true) (k19 : PySem.W.keepIn K (.ref f19) = true)
    {f20 : Addr} {od20 an20 : Option Addr} {sl20 : Array (Option Value)} {oc20 kV20 dc20 pm20 cd20 ct20 : Value}
    (a20 : PySem.W.nsIn K mainGlobals "leading_to" = some (some (.ref f20))) (l20 : K.lookup f20 = some ⟨oc20, od20, .func (PySem.W.fnOf "leading_to" "leading_to" (defArgs s_leading_to) (defBody s_leading_to) (defScope s_leading_to) .none kV20 dc20 pm20 an20 cd20 ct20), sl20⟩) (c20 : PySem.W.codeIn K cd20 "leading_to" = true) (k20 : PySem.W.keepIn K (.ref f20) = true)
    {f21 : Addr} {od21 an21 : Option Addr} {sl21 : Array (Option Value)} {oc21 kV21 dc21 pm21 cd21 ct21 : Value}
    (a21 : PySem.W.nsIn K mainGlobals "leading_from" = some (some (.ref f21))) (l21 : K.lookup f21 = some ⟨oc21, od21, .func (PySem.W.fnOf "leading_from" "leading_from" (defArgs s_leading_from) (defBody s_leading_from) (defScope s_leading_from) .none kV21 dc21 pm21 an21 cd21 ct21), sl21⟩) (c21 : PySem.W.codeIn K cd21 "leading_from" = true) (k21 : PySem.W.keepIn K (.ref f21) = true)
    {f22 : Addr} {od22 an22 : Option Addr} {sl22 : Array (Option Value)} {oc22 kV22 dc22 pm22 cd22 ct22 : Value}
    (a22 : PySem.W.nsIn K mainGlobals "need_told" = some (some (.ref f22))) (l22 : K.lookup f22 = some ⟨oc22, od22, .func (PySem.W.fnOf "need_told" "need_told" (defArgs s_need_told) (defBody s_need_told) (defScope s_need_told) .none kV22 dc22 pm22 an22 cd22 ct22), sl22⟩) (c22 : PySem.W.codeIn K cd22 "need_told" = true) (k22 : PySem.W.keepIn K (.ref f22) = true)
    {f23 : Addr} {od23 an23 : Option Addr} {sl23 : Array (Option Value)} {oc23 kV23 dc23 pm23 cd23 ct23 : Value}
    (a23 : PySem.W.nsIn K mainGlobals "_law_of" = some (some (.ref f23))) (l23 : K.lookup f23 = some ⟨oc23, od23, .func (PySem.W.fnOf "_law_of" "_law_of" (defArgs s__law_of) (defBody s__law_of) (defScope s__law_of) .none kV23 dc23 pm23 an23 cd23 ct23), sl23⟩) (c23 : PySem.W.codeIn K cd23 "_law_of" = true) (k23 : PySem.W.keepIn K (.ref f23) = true)
    {f24 : Addr} {od24 an24 : Option Addr} {sl24 : Array (Option Value)} {oc24 kV24 dc24 pm24 cd24 ct24 : Value}
    (a24 : PySem.W.nsIn K mainGlobals "_law_names" = some (some (.ref f24))) (l24 : K.lookup f24 = some ⟨oc24, od24, .func (PySem.W.fnOf "_law_names" "_law_names" (defArgs s__law_names) (defBody s__law_names) (defScope s__law_names) .none kV24 dc24 pm24 an24 cd24 ct24), sl24⟩) (c24 : PySem.W.codeIn K cd24 "_law_names" = true) (k24 : PySem.W.keepIn K (.ref f24) = true)
    {f25 : Addr} {od25 an25 : Option Addr} {sl25 : Array (Option Value)} {oc25 kV25 dc25 pm25 cd25 ct25 : Value}
    (a25 : PySem.W.nsIn K mainGlobals "_law_shared" = some (some (.ref f25))) (l25 : K.lookup f25 = some ⟨oc25, od25, .func (PySem.W.fnOf "_law_shared" "_law_shared" (defArgs s__law_shared) (defBody s__law_shared) (defScope s__law_shared) .none kV25 dc25 pm25 an25 cd25 ct25), sl25⟩) (c25 : PySem.W.codeIn K cd25 "_law_shared" = true) (k25 : PySem.W.keepIn K (.ref f25) = true)
    {f26 : Addr} {od26 an26 : Option Addr} {sl26 : Array (Option Value)} {oc26 kV26 dc26 pm26 cd26 ct26 : Value}
    (a26 : PySem.W.nsIn K mainGlobals "_law_bent" = some (some (.ref f26))) (l26 : K.lookup f26 = some ⟨oc26, od26, .func (PySem.W.fnOf "_law_bent" "_law_bent" (defArgs s__law_bent) (defBody s__law_bent) (defScope s__law_bent) .none kV26 dc26 pm26 an26 cd26 ct26), sl26⟩) (c26 : PySem.W.codeIn K cd26 "_law_bent" = true) (k26 : PySem.W.keepIn K (.ref f26) = true)
    {f27 : Addr} {od27 an27 : Option Addr} {sl27 : Array (Option Value)} {oc27 kV27 dc27 pm27 cd27 ct27 : Value}
    (a27 : PySem.W.nsIn K mainGlobals "_law_edge" = some (some (.ref f27))) (l27 : K.lookup f27 = some ⟨oc27, od27, .func (PySem.W.fnOf "_law_edge" "_law_edge" (defArgs s__law_edge) (defBody s__law_edge) (defScope s__law_edge) .none kV27 dc27 pm27 an27 cd27 ct27), sl27⟩) (c27 : PySem.W.codeIn K cd27 "_law_edge" = true) (k27 : PySem.W.keepIn K (.ref f27) = true)
    {f28 : Addr} {od28 an28 : Option Addr} {sl28 : Array (Option Value)} {oc28 kV28 dc28 pm28 cd28 ct28 : Value}
    (a28 : PySem.W.nsIn K mainGlobals "_law_wrongs" = some (some (.ref f28))) (l28 : K.lookup f28 = some ⟨oc28, od28, .func (PySem.W.fnOf "_law_wrongs" "_law_wrongs" (defArgs s__law_wrongs) (defBody s__law_wrongs) (defScope s__law_wrongs) .none kV28 dc28 pm28 an28 cd28 ct28), sl28⟩) (c28 : PySem.W.codeIn K cd28 "_law_wrongs" = true) (k28 : PySem.W.keepIn K (.ref f28) = true)
    {f29 : Addr} {od29 an29 : Option Addr} {sl29 : Array (Option Value)} {oc29 kV29 dc29 pm29 cd29 ct29 : Value}
    (a29 : PySem.W.nsIn K mainGlobals "are_between" = some (some (.ref f29))) (l29 : K.lookup f29 = some ⟨oc29, od29, .func (PySem.W.fnOf "are_between" "are_between" (defArgs s_are_between) (defBody s_are_between) (defScope s_are_between) .none kV29 dc29 pm29 an29 cd29 ct29), sl29⟩) (c29 : PySem.W.codeIn K cd29 "are_between" = true) (k29 : PySem.W.keepIn K (.ref f29) = true)
    {f30 : Addr} {od30 an30 : Option Addr} {sl30 : Array (Option Value)} {oc30 kV30 dc30 pm30 cd30 ct30 : Value}
    (a30 : PySem.W.nsIn K mainGlobals "need_number" = some (some (.ref f30))) (l30 : K.lookup f30 = some ⟨oc30, od30, .func (PySem.W.fnOf "need_number" "need_number" (defArgs s_need_number) (defBody s_need_number) (defScope s_need_number) .none kV30 dc30 pm30 an30 cd30 ct30), sl30⟩) (c30 : PySem.W.codeIn K cd30 "need_number" = true) (k30 : PySem.W.keepIn K (.ref f30) = true)
    {f31 : Addr} {od31 an31 : Option Addr} {sl31 : Array (Option Value)} {oc31 kV31 dc31 pm31 cd31 ct31 : Value}
    (a31 : PySem.W.nsIn K mainGlobals "_law_line" = some (some (.ref f31))) (l31 : K.lookup f31 = some ⟨oc31, od31, .func (PySem.W.fnOf "_law_line" "_law_line" (defArgs s__law_line) (defBody s__law_line) (defScope s__law_line) .none kV31 dc31 pm31 an31 cd31 ct31), sl31⟩) (c31 : PySem.W.codeIn K cd31 "_law_line" = true) (k31 : PySem.W.keepIn K (.ref f31) = true)
    {f32 : Addr} {od32 an32 : Option Addr} {sl32 : Array (Option Value)} {oc32 kV32 dc32 pm32 cd32 ct32 : Value}
    (a32 : PySem.W.nsIn K mainGlobals "_law_tasks" = some (some (.ref f32))) (l32 : K.lookup f32 = some ⟨oc32, od32, .func (PySem.W.fnOf "_law_tasks" "_law_tasks" (defArgs s__law_tasks) (defBody s__law_tasks) (defScope s__law_tasks) .none kV32 dc32 pm32 an32 cd32 ct32), sl32⟩) (c32 : PySem.W.codeIn K cd32 "_law_tasks" = true) (k32 : PySem.W.keepIn K (.ref f32) = true)
    {f33 : Addr} {od33 an33 : Option Addr} {sl33 : Array (Option Value)} {oc33 kV33 dc33 pm33 cd33 ct33 : Value}
    (a33 : PySem.W.nsIn K mainGlobals "is_task" = some (some (.ref f33))) (l33 : K.lookup f33 = some ⟨oc33, od33, .func (PySem.W.fnOf "is_task" "is_task" (defArgs s_is_task) (defBody s_is_task) (defScope s_is_task) .none kV33 dc33 pm33 an33 cd33 ct33), sl33⟩) (c33 : PySem.W.codeIn K cd33 "is_task" = true) (k33 : PySem.W.keepIn K (.ref f33) = true)
    {f34 : Addr} {od34 an34 : Option Addr} {sl34 : Array (Option Value)} {oc34 kV34 dc34 pm34 cd34 ct34 : Value}
    (a34 : PySem.W.nsIn K mainGlobals "is_line" = some (some (.ref f34))) (l34 : K.lookup f34 = some ⟨oc34, od34, .func (PySem.W.fnOf "is_line" "is_line" (defArgs s_is_line) (defBody s_is_line) (defScope s_is_line) .none kV34 dc34 pm34 an34 cd34 ct34), sl34⟩) (c34 : PySem.W.codeIn K cd34 "is_line" = true) (k34 : PySem.W.keepIn K (.ref f34) = true)
    {f35 : Addr} {od35 an35 : Option Addr} {sl35 : Array (Option Value)} {oc35 kV35 dc35 pm35 cd35 ct35 : Value}
    (a35 : PySem.W.nsIn K mainGlobals "look_at_state" = some (some (.ref f35))) (l35 : K.lookup f35 = some ⟨oc35, od35, .func (PySem.W.fnOf "look_at_state" "look_at_state" (defArgs s_look_at_state) (defBody s_look_at_state) (defScope s_look_at_state) .none kV35 dc35 pm35 an35 cd35 ct35), sl35⟩) (c35 : PySem.W.codeIn K cd35 "look_at_state" = true) (k35 : PySem.W.keepIn K (.ref f35) = true)
    {f36 : Addr} {od36 an36 : Option Addr} {sl36 : Array (Option Value)} {oc36 kV36 dc36 pm36 cd36 ct36 : Value}
    (a36 : PySem.W.nsIn K mainGlobals "_law_graph" = some (some (.ref f36))) (l36 : K.lookup f36 = some ⟨oc36, od36, .func (PySem.W.fnOf "_law_graph" "_law_graph" (defArgs s__law_graph) (defBody s__law_graph) (defScope s__law_graph) .none kV36 dc36 pm36 an36 cd36 ct36), sl36⟩) (c36 : PySem.W.codeIn K cd36 "_law_graph" = true) (k36 : PySem.W.keepIn K (.ref f36) = true)
    {f37 : Addr} {od37 an37 : Option Addr} {sl37 : Array (Option Value)} {oc37 kV37 dc37 pm37 cd37 ct37 : Value}
    (a37 : PySem.W.nsIn K mainGlobals "has_graph_form" = some (some (.ref f37))) (l37 : K.lookup f37 = some ⟨oc37, od37, .func (PySem.W.fnOf "has_graph_form" "has_graph_form" (defArgs s_has_graph_form) (defBody s_has_graph_form) (defScope s_has_graph_form) .none kV37 dc37 pm37 an37 cd37 ct37), sl37⟩) (c37 : PySem.W.codeIn K cd37 "has_graph_form" = true) (k37 : PySem.W.keepIn K (.ref f37) = true)
    {f38 : Addr} {od38 an38 : Option Addr} {sl38 : Array (Option Value)} {oc38 kV38 dc38 pm38 cd38 ct38 : Value}
    (a38 : PySem.W.nsIn K mainGlobals "look_at_graph" = some (some (.ref f38))) (l38 : K.lookup f38 = some ⟨oc38, od38, .func (PySem.W.fnOf "look_at_graph" "look_at_graph" (defArgs s_look_at_graph) (defBody s_look_at_graph) (defScope s_look_at_graph) .none kV38 dc38 pm38 an38 cd38 ct38), sl38⟩) (c38 : PySem.W.codeIn K cd38 "look_at_graph" = true) (k38 : PySem.W.keepIn K (.ref f38) = true)
    {f39 : Addr} {od39 an39 : Option Addr} {sl39 : Array (Option Value)} {oc39 kV39 dc39 pm39 cd39 ct39 : Value}
    (a39 : PySem.W.nsIn K mainGlobals "tuple_text" = some (some (.ref f39))) (l39 : K.lookup f39 = some ⟨oc39, od39, .func (PySem.W.fnOf "tuple_text" "tuple_text" (defArgs s_tuple_text) (defBody s_tuple_text) (defScope s_tuple_text) .none kV39 dc39 pm39 an39 cd39 ct39), sl39⟩) (c39 : PySem.W.codeIn K cd39 "tuple_text" = true) (k39 : PySem.W.keepIn K (.ref f39) = true)
    {f40 : Addr} {od40 an40 : Option Addr} {sl40 : Array (Option Value)} {oc40 kV40 dc40 pm40 cd40 ct40 : Value}
    (a40 : PySem.W.nsIn K mainGlobals "need_graph" = some (some (.ref f40))) (l40 : K.lookup f40 = some ⟨oc40, od40, .func (PySem.W.fnOf "need_graph" "need_graph" (defArgs s_need_graph) (defBody s_need_graph) (defScope s_need_graph) .none kV40 dc40 pm40 an40 cd40 ct40), sl40⟩) (c40 : PySem.W.codeIn K cd40 "need_graph" = true) (k40 : PySem.W.keepIn K (.ref f40) = true)
    {f41 : Addr} {od41 an41 : Option Addr} {sl41 : Array (Option Value)} {oc41 kV41 dc41 pm41 cd41 ct41 : Value}
    (a41 : PySem.W.nsIn K mainGlobals "first_state" = some (some (.ref f41))) (l41 : K.lookup f41 = some ⟨oc41, od41, .func (PySem.W.fnOf "first_state" "first_state" (defArgs s_first_state) (defBody s_first_state) (defScope s_first_state) .none kV41 dc41 pm41 an41 cd41 ct41), sl41⟩) (c41 : PySem.W.codeIn K cd41 "first_state" = true) (k41 : PySem.W.keepIn K (.ref f41) = true)
    {f42 : Addr} {od42 an42 : Option Addr} {sl42 : Array (Option Value)} {oc42 kV42 dc42 pm42 cd42 ct42 : Value}
    (a42 : PySem.W.nsIn K mainGlobals "need_state" = some (some (.ref f42))) (l42 : K.lookup f42 = some ⟨oc42, od42, .func (PySem.W.fnOf "need_state" "need_state" (defArgs s_need_state) (defBody s_need_state) (defScope s_need_state) .none kV42 dc42 pm42 an42 cd42 ct42), sl42⟩) (c42 : PySem.W.codeIn K cd42 "need_state" = true) (k42 : PySem.W.keepIn K (.ref f42) = true)
    {f43 : Addr} {od43 an43 : Option Addr} {sl43 : Array (Option Value)} {oc43 kV43 dc43 pm43 cd43 ct43 : Value}
    (a43 : PySem.W.nsIn K mainGlobals "can_fire" = some (some (.ref f43))) (l43 : K.lookup f43 = some ⟨oc43, od43, .func (PySem.W.fnOf "can_fire" "can_fire" (defArgs s_can_fire) (defBody s_can_fire) (defScope s_can_fire) .none kV43 dc43 pm43 an43 cd43 ct43), sl43⟩) (c43 : PySem.W.codeIn K cd43 "can_fire" = true) (k43 : PySem.W.keepIn K (.ref f43) = true)
    {f44 : Addr} {od44 an44 : Option Addr} {sl44 : Array (Option Value)} {oc44 kV44 dc44 pm44 cd44 ct44 : Value}
    (a44 : PySem.W.nsIn K mainGlobals "fired" = some (some (.ref f44))) (l44 : K.lookup f44 = some ⟨oc44, od44, .func (PySem.W.fnOf "fired" "fired" (defArgs s_fired) (defBody s_fired) (defScope s_fired) .none kV44 dc44 pm44 an44 cd44 ct44), sl44⟩) (c44 : PySem.W.codeIn K cd44 "fired" = true) (k44 : PySem.W.keepIn K (.ref f44) = true)
    {f45 : Addr} {od45 an45 : Option Addr} {sl45 : Array (Option Value)} {oc45 kV45 dc45 pm45 cd45 ct45 : Value}
    (a45 : PySem.W.nsIn K mainGlobals "look_at_line" = some (some (.ref f45))) (l45 : K.lookup f45 = some ⟨oc45, od45, .func (PySem.W.fnOf "look_at_line" "look_at_line" (defArgs s_look_at_line) (defBody s_look_at_line) (defScope s_look_at_line) .none kV45 dc45 pm45 an45 cd45 ct45), sl45⟩) (c45 : PySem.W.codeIn K cd45 "look_at_line" = true) (k45 : PySem.W.keepIn K (.ref f45) = true)
    {f46 : Addr} {od46 an46 : Option Addr} {sl46 : Array (Option Value)} {oc46 kV46 dc46 pm46 cd46 ct46 : Value}
    (a46 : PySem.W.nsIn K mainGlobals "graph_text" = some (some (.ref f46))) (l46 : K.lookup f46 = some ⟨oc46, od46, .func (PySem.W.fnOf "graph_text" "graph_text" (defArgs s_graph_text) (defBody s_graph_text) (defScope s_graph_text) .none kV46 dc46 pm46 an46 cd46 ct46), sl46⟩) (c46 : PySem.W.codeIn K cd46 "graph_text" = true) (k46 : PySem.W.keepIn K (.ref f46) = true)
    {f47 : Addr} {od47 an47 : Option Addr} {sl47 : Array (Option Value)} {oc47 kV47 dc47 pm47 cd47 ct47 : Value}
    (a47 : PySem.W.nsIn K mainGlobals "graph_at" = some (some (.ref f47))) (l47 : K.lookup f47 = some ⟨oc47, od47, .func (PySem.W.fnOf "graph_at" "graph_at" (defArgs s_graph_at) (defBody s_graph_at) (defScope s_graph_at) .none kV47 dc47 pm47 an47 cd47 ct47), sl47⟩) (c47 : PySem.W.codeIn K cd47 "graph_at" = true) (k47 : PySem.W.keepIn K (.ref f47) = true)
    {f48 : Addr} {od48 an48 : Option Addr} {sl48 : Array (Option Value)} {oc48 kV48 dc48 pm48 cd48 ct48 : Value}
    (a48 : PySem.W.nsIn K mainGlobals "gave" = some (some (.ref f48))) (l48 : K.lookup f48 = some ⟨oc48, od48, .func (PySem.W.fnOf "gave" "gave" (defArgs s_gave) (defBody s_gave) (defScope s_gave) .none kV48 dc48 pm48 an48 cd48 ct48), sl48⟩) (c48 : PySem.W.codeIn K cd48 "gave" = true) (k48 : PySem.W.keepIn K (.ref f48) = true)
    {f49 : Addr} {od49 an49 : Option Addr} {sl49 : Array (Option Value)} {oc49 kV49 dc49 pm49 cd49 ct49 : Value}
    (a49 : PySem.W.nsIn K mainGlobals "took" = some (some (.ref f49))) (l49 : K.lookup f49 = some ⟨oc49, od49, .func (PySem.W.fnOf "took" "took" (defArgs s_took) (defBody s_took) (defScope s_took) .none kV49 dc49 pm49 an49 cd49 ct49), sl49⟩) (c49 : PySem.W.codeIn K cd49 "took" = true) (k49 : PySem.W.keepIn K (.ref f49) = true)
    {f50 : Addr} {od50 an50 : Option Addr} {sl50 : Array (Option Value)} {oc50 kV50 dc50 pm50 cd50 ct50 : Value}
    (a50 : PySem.W.nsIn K mainGlobals "need" = some (some (.ref f50))) (l50 : K.lookup f50 = some ⟨oc50, od50, .func (PySem.W.fnOf "need" "need" (defArgs s_need) (defBody s_need) (defScope s_need) .none kV50 dc50 pm50 an50 cd50 ct50), sl50⟩) (c50 : PySem.W.codeIn K cd50 "need" = true) (k50 : PySem.W.keepIn K (.ref f50) = true)
    {f51 : Addr} {od51 an51 : Option Addr} {sl51 : Array (Option Value)} {oc51 kV51 dc51 pm51 cd51 ct51 : Value}
    (a51 : PySem.W.nsIn K mainGlobals "_law_called" = some (some (.ref f51))) (l51 : K.lookup f51 = some ⟨oc51, od51, .func (PySem.W.fnOf "_law_called" "_law_called" (defArgs s__law_called) (defBody s__law_called) (defScope s__law_called) .none kV51 dc51 pm51 an51 cd51 ct51), sl51⟩) (c51 : PySem.W.codeIn K cd51 "_law_called" = true) (k51 : PySem.W.keepIn K (.ref f51) = true)
    {f52 : Addr} {od52 an52 : Option Addr} {sl52 : Array (Option Value)} {oc52 kV52 dc52 pm52 cd52 ct52 : Value}
    (a52 : PySem.W.nsIn K mainGlobals "_law_refused" = some (some (.ref f52))) (l52 : K.lookup f52 = some ⟨oc52, od52, .func (PySem.W.fnOf "_law_refused" "_law_refused" (defArgs s__law_refused) (defBody s__law_refused) (defScope s__law_refused) .none kV52 dc52 pm52 an52 cd52 ct52), sl52⟩) (c52 : PySem.W.codeIn K cd52 "_law_refused" = true) (k52 : PySem.W.keepIn K (.ref f52) = true)
    {f53 : Addr} {od53 an53 : Option Addr} {sl53 : Array (Option Value)} {oc53 kV53 dc53 pm53 cd53 ct53 : Value}
    (a53 : PySem.W.nsIn K mainGlobals "law" = some (some (.ref f53))) (l53 : K.lookup f53 = some ⟨oc53, od53, .func (PySem.W.fnOf "law" "law" (defArgs s_law) (defBody s_law) (defScope s_law) .none kV53 dc53 pm53 an53 cd53 ct53), sl53⟩) (c53 : PySem.W.codeIn K cd53 "law" = true) (k53 : PySem.W.keepIn K (.ref f53) = true)
    (z0 : PySem.W.nsIn K mainGlobals "bool" = some none)
    (z1 : PySem.W.nsIn K mainGlobals "isinstance" = some none)
    (z2 : PySem.W.nsIn K mainGlobals "int" = some none)
    (z3 : PySem.W.nsIn K mainGlobals "len" = some none)
    (z4 : PySem.W.nsIn K mainGlobals "tuple" = some none)
    {t5 : Tok} (z5 : PySem.W.nsIn K mainGlobals "LETTERS" = some (some (.str "abcdefghijklmnopqrstuvwxyz" t5)))
    (z6 : PySem.W.nsIn K mainGlobals "str" = some none)
    {t7 : Tok} (z7 : PySem.W.nsIn K mainGlobals "FIGURES" = some (some (.str "0123456789" t7)))
    (z8 : PySem.W.nsIn K mainGlobals "all" = some none)
    (z9 : PySem.W.nsIn K mainGlobals "sum" = some none)
    (z10 : PySem.W.nsIn K mainGlobals "divmod" = some none)
    (z11 : PySem.W.nsIn K mainGlobals "list" = some none)
    (z12 : PySem.W.nsIn K mainGlobals "zip" = some none)
    (z13 : PySem.W.nsIn K mainGlobals "enumerate" = some none)
    (z14 : PySem.W.nsIn K mainGlobals "max" = some none)
    (z15 : PySem.W.nsIn K mainGlobals "range" = some none)
    (z16 : PySem.W.nsIn K mainGlobals "min" = some none)
    {t17 : Tok} (z17 : PySem.W.nsIn K mainGlobals "MOST_PHASES" = some (some (.int 24 t17)))
    {t18 : Tok} (z18 : PySem.W.nsIn K mainGlobals "MOST_STOCK" = some (some (.int 99999 t18)))
    {t19 : Tok} (z19 : PySem.W.nsIn K mainGlobals "MOST_HELD" = some (some (.int 999999 t19)))
    {t20 : Tok} (z20 : PySem.W.nsIn K mainGlobals "MOST_TASKS" = some (some (.int 24 t20)))
    {t21 : Tok} (z21 : PySem.W.nsIn K mainGlobals "MOST_LINES" = some (some (.int 60 t21)))
    (z22 : PySem.W.nsIn K mainGlobals "set" = some none)
    {t23 : Tok} (z23 : PySem.W.nsIn K mainGlobals "MOST_FIRINGS" = some (some (.int 100000 t23)))
    {C_RateError : Addr} (gC_RateError : PySem.W.nsIn K mainGlobals "RateError" = some (some (.ref C_RateError))) (bs1_RateError : PySem.W.specialIn K (.ref C_RateError) "__getattribute__" = some (some (.builtin "type.__getattribute__"))) (bs2_RateError : PySem.W.readsIn K C_RateError (.type "type") = true) (bs3_RateError : PySem.W.findCls K (.ref C_RateError) (.type "type") "__init__" = some (.val (.builtin "ValueError.__init__")))
    {C_BadName : Addr} (gC_BadName : PySem.W.nsIn K mainGlobals "BadName" = some (some (.ref C_BadName)))
    {C_BadNumber : Addr} (gC_BadNumber : PySem.W.nsIn K mainGlobals "BadNumber" = some (some (.ref C_BadNumber)))
    {C_BadFiring : Addr} (gC_BadFiring : PySem.W.nsIn K mainGlobals "BadFiring" = some (some (.ref C_BadFiring)))
    {C_BadGraph : Addr} (gC_BadGraph : PySem.W.nsIn K mainGlobals "BadGraph" = some (some (.ref C_BadGraph)))
    {C_BadState : Addr} (gC_BadState : PySem.W.nsIn K mainGlobals "BadState" = some (some (.ref C_BadState)))
    {nm_BadName q_BadName : Str} {N_BadName fI_BadName : Addr} {bs_BadName : List Value} {sn_BadName : List Str} {sub_BadName : List Value} {ab_BadName : Bool} {col_BadName : Option Bool} {dd_BadName : Option Addr} {m0_BadName m1_BadName m2_BadName m3_BadName m5_BadName : Option Value} {od_BadName an_BadName : Option Addr} {sl_BadName : Array (Option Value)} {oc_BadName kV_BadName dc_BadName pm_BadName cd_BadName ct_BadName : Value}
    (xL_BadName : K.lookup C_BadName = some (excClassObj nm_BadName q_BadName C_BadName N_BadName bs_BadName [.ref C_RateError, .type "ValueError", .type "Exception", .type "BaseException", .type "object"] true sn_BadName sub_BadName ab_BadName col_BadName dd_BadName m0_BadName m1_BadName m2_BadName m3_BadName m5_BadName "ValueError.__new__"))
    (sa_BadName : PySem.W.findIn K (.ref C_BadName) "__setattr__" = some (some (.builtin "object.__setattr__"))) (ga_BadName : PySem.W.findIn K (.ref C_BadName) "__getattribute__" = some (some (.builtin "BaseException.__getattribute__"))) (gg_BadName : PySem.W.findIn K (.ref C_BadName) "__getattr__" = some none)
    (ai_BadName : PySem.W.findIn K (.ref C_BadName) "__init__" = some (some (.ref fI_BadName))) (ti_BadName : PySem.W.typeIn K (.ref fI_BadName) = some (.type "function")) (li_BadName : K.lookup fI_BadName = some ⟨oc_BadName, od_BadName, .func (PySem.W.fnOf "__init__" "BadName.__init__" (defArgs s_ini_BadName) (defBody s_ini_BadName) (defScope s_ini_BadName) .none kV_BadName dc_BadName pm_BadName an_BadName cd_BadName ct_BadName), sl_BadName⟩) (ci_BadName : PySem.W.codeIn K cd_BadName "BadName.__init__" = true) (ki_BadName : PySem.W.keepIn K (.ref fI_BadName) = true)
    (kC_BadName : PySem.W.keepIn K (.ref C_BadName) = true) (eC_BadName : PySem.W.subIn K (.ref C_BadName) (.type "BaseException") = some true) (tC_BadName : PySem.W.typeIn K (.ref C_BadName) = some (.type "type")) (hC_BadName : PySem.W.hasDictIn K C_BadName = true)
    (no_place_BadName : PySem.W.findIn K (.ref C_BadName) "place" = some none)
    (no_value_BadName : PySem.W.findIn K (.ref C_BadName) "value" = some none)
    {nm_BadNumber q_BadNumber : Str} {N_BadNumber fI_BadNumber : Addr} {bs_BadNumber : List Value} {sn_BadNumber : List Str} {sub_BadNumber : List Value} {ab_BadNumber : Bool} {col_BadNumber : Option Bool} {dd_BadNumber : Option Addr} {m0_BadNumber m1_BadNumber m2_BadNumber m3_BadNumber m5_BadNumber : Option Value} {od_BadNumber an_BadNumber : Option Addr} {sl_BadNumber : Array (Option Value)} {oc_BadNumber kV_BadNumber dc_BadNumber pm_BadNumber cd_BadNumber ct_BadNumber : Value}
    (xL_BadNumber : K.lookup C_BadNumber = some (excClassObj nm_BadNumber q_BadNumber C_BadNumber N_BadNumber bs_BadNumber [.ref C_RateError, .type "ValueError", .type "Exception", .type "BaseException", .type "object"] true sn_BadNumber sub_BadNumber ab_BadNumber col_BadNumber dd_BadNumber m0_BadNumber m1_BadNumber m2_BadNumber m3_BadNumber m5_BadNumber "ValueError.__new__"))
    (sa_BadNumber : PySem.W.findIn K (.ref C_BadNumber) "__setattr__" = some (some (.builtin "object.__setattr__"))) (ga_BadNumber : PySem.W.findIn K (.ref C_BadNumber) "__getattribute__" = some (some (.builtin "BaseException.__getattribute__"))) (gg_BadNumber : PySem.W.findIn K (.ref C_BadNumber) "__getattr__" = some none)
    (ai_BadNumber : PySem.W.findIn K (.ref C_BadNumber) "__init__" = some (some (.ref fI_BadNumber))) (ti_BadNumber : PySem.W.typeIn K (.ref fI_BadNumber) = some (.type "function")) (li_BadNumber : K.lookup fI_BadNumber = some ⟨oc_BadNumber, od_BadNumber, .func (PySem.W.fnOf "__init__" "BadNumber.__init__" (defArgs s_ini_BadNumber) (defBody s_ini_BadNumber) (defScope s_ini_BadNumber) .none kV_BadNumber dc_BadNumber pm_BadNumber an_BadNumber cd_BadNumber ct_BadNumber), sl_BadNumber⟩) (ci_BadNumber : PySem.W.codeIn K cd_BadNumber "BadNumber.__init__" = true) (ki_BadNumber : PySem.W.keepIn K (.ref fI_BadNumber) = true)
    (kC_BadNumber : PySem.W.keepIn K (.ref C_BadNumber) = true) (eC_BadNumber : PySem.W.subIn K (.ref C_BadNumber) (.type "BaseException") = some true) (tC_BadNumber : PySem.W.typeIn K (.ref C_BadNumber) = some (.type "type")) (hC_BadNumber : PySem.W.hasDictIn K C_BadNumber = true)
    (no_place_BadNumber : PySem.W.findIn K (.ref C_BadNumber) "place" = some none)
    (no_value_BadNumber : PySem.W.findIn K (.ref C_BadNumber) "value" = some none)
    {nm_BadFiring q_BadFiring : Str} {N_BadFiring fI_BadFiring : Addr} {bs_BadFiring : List Value} {sn_BadFiring : List Str} {sub_BadFiring : List Value} {ab_BadFiring : Bool} {col_BadFiring : Option Bool} {dd_BadFiring : Option Addr} {m0_BadFiring m1_BadFiring m2_BadFiring m3_BadFiring m5_BadFiring : Option Value} {od_BadFiring an_BadFiring : Option Addr} {sl_BadFiring : Array (Option Value)} {oc_BadFiring kV_BadFiring dc_BadFiring pm_BadFiring cd_BadFiring ct_BadFiring : Value}
    (xL_BadFiring : K.lookup C_BadFiring = some (excClassObj nm_BadFiring q_BadFiring C_BadFiring N_BadFiring bs_BadFiring [.ref C_RateError, .type "ValueError", .type "Exception", .type "BaseException", .type "object"] true sn_BadFiring sub_BadFiring ab_BadFiring col_BadFiring dd_BadFiring m0_BadFiring m1_BadFiring m2_BadFiring m3_BadFiring m5_BadFiring "ValueError.__new__"))
    (sa_BadFiring : PySem.W.findIn K (.ref C_BadFiring) "__setattr__" = some (some (.builtin "object.__setattr__"))) (ga_BadFiring : PySem.W.findIn K (.ref C_BadFiring) "__getattribute__" = some (some (.builtin "BaseException.__getattribute__"))) (gg_BadFiring : PySem.W.findIn K (.ref C_BadFiring) "__getattr__" = some none)
    (ai_BadFiring : PySem.W.findIn K (.ref C_BadFiring) "__init__" = some (some (.ref fI_BadFiring))) (ti_BadFiring : PySem.W.typeIn K (.ref fI_BadFiring) = some (.type "function")) (li_BadFiring : K.lookup fI_BadFiring = some ⟨oc_BadFiring, od_BadFiring, .func (PySem.W.fnOf "__init__" "BadFiring.__init__" (defArgs s_ini_BadFiring) (defBody s_ini_BadFiring) (defScope s_ini_BadFiring) .none kV_BadFiring dc_BadFiring pm_BadFiring an_BadFiring cd_BadFiring ct_BadFiring), sl_BadFiring⟩) (ci_BadFiring : PySem.W.codeIn K cd_BadFiring "BadFiring.__init__" = true) (ki_BadFiring : PySem.W.keepIn K (.ref fI_BadFiring) = true)
    (kC_BadFiring : PySem.W.keepIn K (.ref C_BadFiring) = true) (eC_BadFiring : PySem.W.subIn K (.ref C_BadFiring) (.type "BaseException") = some true) (tC_BadFiring : PySem.W.typeIn K (.ref C_BadFiring) = some (.type "type")) (hC_BadFiring : PySem.W.hasDictIn K C_BadFiring = true)
    (no_place_BadFiring : PySem.W.findIn K (.ref C_BadFiring) "place" = some none)
    (no_value_BadFiring : PySem.W.findIn K (.ref C_BadFiring) "value" = some none)
    {nm_BadGraph q_BadGraph : Str} {N_BadGraph fI_BadGraph : Addr} {bs_BadGraph : List Value} {sn_BadGraph : List Str} {sub_BadGraph : List Value} {ab_BadGraph : Bool} {col_BadGraph : Option Bool} {dd_BadGraph : Option Addr} {m0_BadGraph m1_BadGraph m2_BadGraph m3_BadGraph m5_BadGraph : Option Value} {od_BadGraph an_BadGraph : Option Addr} {sl_BadGraph : Array (Option Value)} {oc_BadGraph kV_BadGraph dc_BadGraph pm_BadGraph cd_BadGraph ct_BadGraph : Value}
    (xL_BadGraph : K.lookup C_BadGraph = some (excClassObj nm_BadGraph q_BadGraph C_BadGraph N_BadGraph bs_BadGraph [.ref C_RateError, .type "ValueError", .type "Exception", .type "BaseException", .type "object"] true sn_BadGraph sub_BadGraph ab_BadGraph col_BadGraph dd_BadGraph m0_BadGraph m1_BadGraph m2_BadGraph m3_BadGraph m5_BadGraph "ValueError.__new__"))
    (sa_BadGraph : PySem.W.findIn K (.ref C_BadGraph) "__setattr__" = some (some (.builtin "object.__setattr__"))) (ga_BadGraph : PySem.W.findIn K (.ref C_BadGraph) "__getattribute__" = some (some (.builtin "BaseException.__getattribute__"))) (gg_BadGraph : PySem.W.findIn K (.ref C_BadGraph) "__getattr__" = some none)
    (ai_BadGraph : PySem.W.findIn K (.ref C_BadGraph) "__init__" = some (some (.ref fI_BadGraph))) (ti_BadGraph : PySem.W.typeIn K (.ref fI_BadGraph) = some (.type "function")) (li_BadGraph : K.lookup fI_BadGraph = some ⟨oc_BadGraph, od_BadGraph, .func (PySem.W.fnOf "__init__" "BadGraph.__init__" (defArgs s_ini_BadGraph) (defBody s_ini_BadGraph) (defScope s_ini_BadGraph) .none kV_BadGraph dc_BadGraph pm_BadGraph an_BadGraph cd_BadGraph ct_BadGraph), sl_BadGraph⟩) (ci_BadGraph : PySem.W.codeIn K cd_BadGraph "BadGraph.__init__" = true) (ki_BadGraph : PySem.W.keepIn K (.ref fI_BadGraph) = true)
    (kC_BadGraph : PySem.W.keepIn K (.ref C_BadGraph) = true) (eC_BadGraph : PySem.W.subIn K (.ref C_BadGraph) (.type "BaseException") = some true) (tC_BadGraph : PySem.W.typeIn K (.ref C_BadGraph) = some (.type "type")) (hC_BadGraph : PySem.W.hasDictIn K C_BadGraph = true)
    (no_place_BadGraph : PySem.W.findIn K (.ref C_BadGraph) "place" = some none)
    (no_value_BadGraph : PySem.W.findIn K (.ref C_BadGraph) "value" = some none)
    {nm_BadState q_BadState : Str} {N_BadState fI_BadState : Addr} {bs_BadState : List Value} {sn_BadState : List Str} {sub_BadState : List Value} {ab_BadState : Bool} {col_BadState : Option Bool} {dd_BadState : Option Addr} {m0_BadState m1_BadState m2_BadState m3_BadState m5_BadState : Option Value} {od_BadState an_BadState : Option Addr} {sl_BadState : Array (Option Value)} {oc_BadState kV_BadState dc_BadState pm_BadState cd_BadState ct_BadState : Value}
    (xL_BadState : K.lookup C_BadState = some (excClassObj nm_BadState q_BadState C_BadState N_BadState bs_BadState [.ref C_RateError, .type "ValueError", .type "Exception", .type "BaseException", .type "object"] true sn_BadState sub_BadState ab_BadState col_BadState dd_BadState m0_BadState m1_BadState m2_BadState m3_BadState m5_BadState "ValueError.__new__"))
    (sa_BadState : PySem.W.findIn K (.ref C_BadState) "__setattr__" = some (some (.builtin "object.__setattr__"))) (ga_BadState : PySem.W.findIn K (.ref C_BadState) "__getattribute__" = some (some (.builtin "BaseException.__getattribute__"))) (gg_BadState : PySem.W.findIn K (.ref C_BadState) "__getattr__" = some none)
    (ai_BadState : PySem.W.findIn K (.ref C_BadState) "__init__" = some (some (.ref fI_BadState))) (ti_BadState : PySem.W.typeIn K (.ref fI_BadState) = some (.type "function")) (li_BadState : K.lookup fI_BadState = some ⟨oc_BadState, od_BadState, .func (PySem.W.fnOf "__init__" "BadState.__init__" (defArgs s_ini_BadState) (defBody s_ini_BadState) (defScope s_ini_BadState) .none kV_BadState dc_BadState pm_BadState an_BadState cd_BadState ct_BadState), sl_BadState⟩) (ci_BadState : PySem.W.codeIn K cd_BadState "BadState.__init__" = true) (ki_BadState : PySem.W.keepIn K (.ref fI_BadState) = true)
    (kC_BadState : PySem.W.keepIn K (.ref C_BadState) = true) (eC_BadState : PySem.W.subIn K (.ref C_BadState) (.type "BaseException") = some true) (tC_BadState : PySem.W.typeIn K (.ref C_BadState) = some (.type "type")) (hC_BadState : PySem.W.hasDictIn K C_BadState = true)
    (no_place_BadState : PySem.W.findIn K (.ref C_BadState) "place" = some none)
    (no_value_BadState : PySem.W.findIn K (.ref C_BadState) "value" = some none)
    (eC_RateError : PySem.W.subIn K (.ref C_RateError) (.type "BaseException") = some true) (tC_RateError : PySem.W.typeIn K (.ref C_RateError) = some (.type "type"))
    (iC_RateError : PySem.W.isClsIn K C_RateError = true)
    (sb_BadName_RateError : PySem.W.subIn K (.ref C_BadName) (.ref C_RateError) = some true)
    (sb_BadNumber_RateError : PySem.W.subIn K (.ref C_BadNumber) (.ref C_RateError) = some true)
    (sb_BadFiring_RateError : PySem.W.subIn K (.ref C_BadFiring) (.ref C_RateError) = some true)
    (sb_BadGraph_RateError : PySem.W.subIn K (.ref C_BadGraph) (.ref C_RateError) = some true)
    (sb_BadState_RateError : PySem.W.subIn K (.ref C_BadState) (.ref C_RateError) = some true)
    (iC_BadGraph : PySem.W.isClsIn K C_BadGraph = true)
    (sb_BadName_BadGraph : PySem.W.subIn K (.ref C_BadName) (.ref C_BadGraph) = some false)
    (sb_BadNumber_BadGraph : PySem.W.subIn K (.ref C_BadNumber) (.ref C_BadGraph) = some false)
    (sb_BadFiring_BadGraph : PySem.W.subIn K (.ref C_BadFiring) (.ref C_BadGraph) = some false)
    (sb_BadGraph_BadGraph : PySem.W.subIn K (.ref C_BadGraph) (.ref C_BadGraph) = some true)
    (sb_BadState_BadGraph : PySem.W.subIn K (.ref C_BadState) (.ref C_BadGraph) = some false) :
    ∃ fd : FuncData, (∀ (s : Shared) (v : Value), BindsTo s fd ⟨[v], []⟩ [("script", v)]) ∧ ∀ base : Heap, K.In base → base.Ns mainGlobals mg → FnG l.prog w K mg base 11 fa fd ["script"] (lfSp K sp_law) := by
  have e := hfa.symm.trans (PySem.W.mg_of X G a53)
  cases e
  have W : Wd mg := ⟨PySem.W.mg_none_of X G z0, PySem.W.mg_none_of X G z1, PySem.W.mg_none_of X G z2, PySem.W.mg_none_of X G z3, PySem.W.mg_none_of X G z4, ⟨_, PySem.W.mg_of X G z5⟩, PySem.W.mg_none_of X G z6, ⟨_, PySem.W.mg_of X G z7⟩, PySem.W.mg_none_of X G z8, PySem.W.mg_none_of X G z9, PySem.W.mg_none_of X G z10, PySem.W.mg_none_of X G z11, PySem.W.mg_none_of X G z12, PySem.W.mg_none_of X G z13, PySem.W.mg_none_of X G z14, PySem.W.mg_none_of X G z15, PySem.W.mg_none_of X G z16, ⟨_, PySem.W.mg_of X G z17⟩, ⟨_, PySem.W.mg_of X G z18⟩, ⟨_, PySem.W.mg_of X G z19⟩, ⟨_, PySem.W.mg_of X G z20⟩, ⟨_, PySem.W.mg_of X G z21⟩, PySem.W.mg_none_of X G z22, ⟨_, PySem.W.mg_of X G z23⟩⟩
  refine ⟨PySem.W.fnOf "law" "law" (defArgs s_law) (defBody s_law) (defScope s_law) .none kV53 dc53 pm53 an53 cd53 ct53, fun s v => .of_eq rfl, fun base _ _ => ?_⟩
  have B_RateError : BaseAt K mg "RateError" := ⟨C_RateError, PySem.W.mg_of X G gC_RateError, bs1_RateError, bs2_RateError, bs3_RateError⟩
  have T_BadName : OexC K C_BadName := ⟨⟨nm_BadName, q_BadName, N_BadName, bs_BadName, _, sn_BadName, sub_BadName, ab_BadName, col_BadName, dd_BadName, m0_BadName, m1_BadName, m2_BadName, m3_BadName, m5_BadName, xL_BadName, rfl⟩, sa_BadName, eC_BadName, tC_BadName, kC_BadName⟩
  have x_BadName : XfC K C_BadName := ⟨ga_BadName, gg_BadName, eC_BadName, hC_BadName⟩
  have F_BadName := fun_mk (st := s_ini_BadName) li_BadName ci_BadName ki_BadName
  have e_BadName : ErrOk l.prog w K mg base "BadName" "value" := ⟨C_BadName, PySem.W.mg_of X G gC_BadName, T_BadName, x_BadName, no_value_BadName, fI_BadName, _, ["self", "value"], ai_BadName, ti_BadName, F_BadName.binds (ps := ["self", "value"]) (fun _ _ _ _ _ _ us hl => match us, hl with | [_, _], _ => rfl), ini_BadName B_RateError T_BadName no_value_BadName F_BadName⟩
  have T_BadNumber : OexC K C_BadNumber := ⟨⟨nm_BadNumber, q_BadNumber, N_BadNumber, bs_BadNumber, _, sn_BadNumber, sub_BadNumber, ab_BadNumber, col_BadNumber, dd_BadNumber, m0_BadNumber, m1_BadNumber, m2_BadNumber, m3_BadNumber, m5_BadNumber, xL_BadNumber, rfl⟩, sa_BadNumber, eC_BadNumber, tC_BadNumber, kC_BadNumber⟩
  have x_BadNumber : XfC K C_BadNumber := ⟨ga_BadNumber, gg_BadNumber, eC_BadNumber, hC_BadNumber⟩
  have F_BadNumber := fun_mk (st := s_ini_BadNumber) li_BadNumber ci_BadNumber ki_BadNumber
  have e_BadNumber : ErrOk l.prog w K mg base "BadNumber" "value" := ⟨C_BadNumber, PySem.W.mg_of X G gC_BadNumber, T_BadNumber, x_BadNumber, no_value_BadNumber, fI_BadNumber, _, ["self", "value"], ai_BadNumber, ti_BadNumber, F_BadNumber.binds (ps := ["self", "value"]) (fun _ _ _ _ _ _ us hl => match us, hl with | [_, _], _ => rfl), ini_BadNumber B_RateError T_BadNumber no_value_BadNumber F_BadNumber⟩
  have T_BadFiring : OexC K C_BadFiring := ⟨⟨nm_BadFiring, q_BadFiring, N_BadFiring, bs_BadFiring, _, sn_BadFiring, sub_BadFiring, ab_BadFiring, col_BadFiring, dd_BadFiring, m0_BadFiring, m1_BadFiring, m2_BadFiring, m3_BadFiring, m5_BadFiring, xL_BadFiring, rfl⟩, sa_BadFiring, eC_BadFiring, tC_BadFiring, kC_BadFiring⟩
  have x_BadFiring : XfC K C_BadFiring := ⟨ga_BadFiring, gg_BadFiring, eC_BadFiring, hC_BadFiring⟩
  have F_BadFiring := fun_mk (st := s_ini_BadFiring) li_BadFiring ci_BadFiring ki_BadFiring
  have e_BadFiring : ErrOk l.prog w K mg base "BadFiring" "value" := ⟨C_BadFiring, PySem.W.mg_of X G gC_BadFiring, T_BadFiring, x_BadFiring, no_value_BadFiring, fI_BadFiring, _, ["self", "value"], ai_BadFiring, ti_BadFiring, F_BadFiring.binds (ps := ["self", "value"]) (fun _ _ _ _ _ _ us hl => match us, hl with | [_, _], _ => rfl), ini_BadFiring B_RateError T_BadFiring no_value_BadFiring F_BadFiring⟩
  have T_BadGraph : OexC K C_BadGraph := ⟨⟨nm_BadGraph, q_BadGraph, N_BadGraph, bs_BadGraph, _, sn_BadGraph, sub_BadGraph, ab_BadGraph, col_BadGraph, dd_BadGraph, m0_BadGraph, m1_BadGraph, m2_BadGraph, m3_BadGraph, m5_BadGraph, xL_BadGraph, rfl⟩, sa_BadGraph, eC_BadGraph, tC_BadGraph, kC_BadGraph⟩
  have x_BadGraph : XfC K C_BadGraph := ⟨ga_BadGraph, gg_BadGraph, eC_BadGraph, hC_BadGraph⟩
  have F_BadGraph := fun_mk (st := s_ini_BadGraph) li_BadGraph ci_BadGraph ki_BadGraph
  have e_BadGraph : ErrOk l.prog w K mg base "BadGraph" "place" := ⟨C_BadGraph, PySem.W.mg_of X G gC_BadGraph, T_BadGraph, x_BadGraph, no_place_BadGraph, fI_BadGraph, _, ["self", "place"], ai_BadGraph, ti_BadGraph, F_BadGraph.binds (ps := ["self", "place"]) (fun _ _ _ _ _ _ us hl => match us, hl with | [_, _], _ => rfl), ini_BadGraph B_RateError T_BadGraph no_place_BadGraph F_BadGraph⟩
  have T_BadState : OexC K C_BadState := ⟨⟨nm_BadState, q_BadState, N_BadState, bs_BadState, _, sn_BadState, sub_BadState, ab_BadState, col_BadState, dd_BadState, m0_BadState, m1_BadState, m2_BadState, m3_BadState, m5_BadState, xL_BadState, rfl⟩, sa_BadState, eC_BadState, tC_BadState, kC_BadState⟩
  have x_BadState : XfC K C_BadState := ⟨ga_BadState, gg_BadState, eC_BadState, hC_BadState⟩
  have F_BadState := fun_mk (st := s_ini_BadState) li_BadState ci_BadState ki_BadState
  have e_BadState : ErrOk l.prog w K mg base "BadState" "place" := ⟨C_BadState, PySem.W.mg_of X G gC_BadState, T_BadState, x_BadState, no_place_BadState, fI_BadState, _, ["self", "place"], ai_BadState, ti_BadState, F_BadState.binds (ps := ["self", "place"]) (fun _ _ _ _ _ _ us hl => match us, hl with | [_, _], _ => rfl), ini_BadState B_RateError T_BadState no_place_BadState F_BadState⟩
  have ef : ErrFld K mg ["BadName", "BadNumber", "BadFiring", "BadGraph", "BadState"] ["place", "value"] := by
    intro n C hn hm
    rcases List.mem_cons.mp hn with rfl | hn
    · have z := hm.symm.trans (PySem.W.mg_of X G gC_BadName)
      cases z
      exact ⟨x_BadName, fun f hf => by
        rcases List.mem_cons.mp hf with rfl | hf
        · exact no_place_BadName
        rcases List.mem_cons.mp hf with rfl | hf
        · exact no_value_BadName
        · cases hf⟩
    rcases List.mem_cons.mp hn with rfl | hn
    · have z := hm.symm.trans (PySem.W.mg_of X G gC_BadNumber)
      cases z
      exact ⟨x_BadNumber, fun f hf => by
        rcases List.mem_cons.mp hf with rfl | hf
        · exact no_place_BadNumber
        rcases List.mem_cons.mp hf with rfl | hf
        · exact no_value_BadNumber
        · cases hf⟩
    rcases List.mem_cons.mp hn with rfl | hn
    · have z := hm.symm.trans (PySem.W.mg_of X G gC_BadFiring)
      cases z
      exact ⟨x_BadFiring, fun f hf => by
        rcases List.mem_cons.mp hf with rfl | hf
        · exact no_place_BadFiring
        rcases List.mem_cons.mp hf with rfl | hf
        · exact no_value_BadFiring
        · cases hf⟩
    rcases List.mem_cons.mp hn with rfl | hn
    · have z := hm.symm.trans (PySem.W.mg_of X G gC_BadGraph)
      cases z
      exact ⟨x_BadGraph, fun f hf => by
        rcases List.mem_cons.mp hf with rfl | hf
        · exact no_place_BadGraph
        rcases List.mem_cons.mp hf with rfl | hf
        · exact no_value_BadGraph
        · cases hf⟩
    rcases List.mem_cons.mp hn with rfl | hn
    · have z := hm.symm.trans (PySem.W.mg_of X G gC_BadState)
      cases z
      exact ⟨x_BadState, fun f hf => by
        rcases List.mem_cons.mp hf with rfl | hf
        · exact no_place_BadState
        rcases List.mem_cons.mp hf with rfl | hf
        · exact no_value_BadState
        · cases hf⟩
    · cases hn
  have c_RateError : ErrCls K mg ["BadName", "BadNumber", "BadFiring", "BadGraph", "BadState"] "RateError" (.ref C_RateError) := ⟨.inl (PySem.W.mg_of X G gC_RateError), by
    intro n hn C hm
    rcases List.mem_cons.mp hn with rfl | hn
    · have z := hm.symm.trans (PySem.W.mg_of X G gC_BadName)
      cases z
      exact (exm_of eC_RateError iC_RateError tC_RateError sb_BadName_RateError).trans (by decide)
    rcases List.mem_cons.mp hn with rfl | hn
    · have z := hm.symm.trans (PySem.W.mg_of X G gC_BadNumber)
      cases z
      exact (exm_of eC_RateError iC_RateError tC_RateError sb_BadNumber_RateError).trans (by decide)
    rcases List.mem_cons.mp hn with rfl | hn
    · have z := hm.symm.trans (PySem.W.mg_of X G gC_BadFiring)
      cases z
      exact (exm_of eC_RateError iC_RateError tC_RateError sb_BadFiring_RateError).trans (by decide)
    rcases List.mem_cons.mp hn with rfl | hn
    · have z := hm.symm.trans (PySem.W.mg_of X G gC_BadGraph)
      cases z
      exact (exm_of eC_RateError iC_RateError tC_RateError sb_BadGraph_RateError).trans (by decide)
    rcases List.mem_cons.mp hn with rfl | hn
    · have z := hm.symm.trans (PySem.W.mg_of X G gC_BadState)
      cases z
      exact (exm_of eC_RateError iC_RateError tC_RateError sb_BadState_RateError).trans (by decide)
    · cases hn⟩
  have c_BadGraph : ErrCls K mg ["BadName", "BadNumber", "BadFiring", "BadGraph", "BadState"] "BadGraph" (.ref C_BadGraph) := ⟨.inl (PySem.W.mg_of X G gC_BadGraph), by
    intro n hn C hm
    rcases List.mem_cons.mp hn with rfl | hn
    · have z := hm.symm.trans (PySem.W.mg_of X G gC_BadName)
      cases z
      exact (exm_of eC_BadGraph iC_BadGraph tC_BadGraph sb_BadName_BadGraph).trans (by decide)
    rcases List.mem_cons.mp hn with rfl | hn
    · have z := hm.symm.trans (PySem.W.mg_of X G gC_BadNumber)
      cases z
      exact (exm_of eC_BadGraph iC_BadGraph tC_BadGraph sb_BadNumber_BadGraph).trans (by decide)
    rcases List.mem_cons.mp hn with rfl | hn
    · have z := hm.symm.trans (PySem.W.mg_of X G gC_BadFiring)
      cases z
      exact (exm_of eC_BadGraph iC_BadGraph tC_BadGraph sb_BadFiring_BadGraph).trans (by decide)
    rcases List.mem_cons.mp hn with rfl | hn
    · have z := hm.symm.trans (PySem.W.mg_of X G gC_BadGraph)
      cases z
      exact (exm_of eC_BadGraph iC_BadGraph tC_BadGraph sb_BadGraph_BadGraph).trans (by decide)
    rcases List.mem_cons.mp hn with rfl | hn
    · have z := hm.symm.trans (PySem.W.mg_of X G gC_BadState)
      cases z
      exact (exm_of eC_BadGraph iC_BadGraph tC_BadGraph sb_BadState_BadGraph).trans (by decide)
    · cases hn⟩
  have h_is_whole : Has l.prog w K mg base 1 "is_whole" P_is_whole sp_is_whole := ok_is_whole W  (PySem.W.mg_of X G a0) (fun_mk (st := s_is_whole) l0 c0 k0)
  have hg_is_whole : Has l.prog w K mg base 1 "is_whole" P_is_whole sg_is_whole := okg_is_whole W  (PySem.W.mg_of X G a0) (fun_mk (st := s_is_whole) l0 c0 k0)
  have h_is_tuple_of : Has l.prog w K mg base 1 "is_tuple_of" P_is_tuple_of sp_is_tuple_of := ok_is_tuple_of W  (PySem.W.mg_of X G a1) (fun_mk (st := s_is_tuple_of) l1 c1 k1)
  have hg_is_tuple_of : Has l.prog w K mg base 1 "is_tuple_of" P_is_tuple_of sg_is_tuple_of := okg_is_tuple_of W  (PySem.W.mg_of X G a1) (fun_mk (st := s_is_tuple_of) l1 c1 k1)
  have h_is_name : Has l.prog w K mg base 1 "is_name" P_is_name sp_is_name := ok_is_name W  (PySem.W.mg_of X G a2) (fun_mk (st := s_is_name) l2 c2 k2)
  have hg_is_name : Has l.prog w K mg base 1 "is_name" P_is_name sg_is_name := okg_is_name W  (PySem.W.mg_of X G a2) (fun_mk (st := s_is_name) l2 c2 k2)
  have h_task_names : Has l.prog w K mg base 1 "task_names" P_task_names sp_task_names := ok_task_names W  (PySem.W.mg_of X G a3) (fun_mk (st := s_task_names) l3 c3 k3)
  have h_fits : Has l.prog w K mg base 1 "fits" P_fits sp_fits := ok_fits W  (PySem.W.mg_of X G a4) (fun_mk (st := s_fits) l4 c4 k4)
  have hg_fits : Has l.prog w K mg base 1 "fits" P_fits sg_fits := okg_fits W  (PySem.W.mg_of X G a4) (fun_mk (st := s_fits) l4 c4 k4)
  have h_beginning : Has l.prog w K mg base 1 "beginning" P_beginning sp_beginning := ok_beginning W  (PySem.W.mg_of X G a5) (fun_mk (st := s_beginning) l5 c5 k5)
  have h_turned : Has l.prog w K mg base 1 "turned" P_turned sp_turned := ok_turned W  (PySem.W.mg_of X G a6) (fun_mk (st := s_turned) l6 c6 k6)
  have h_counted : Has l.prog w K mg base 1 "counted" P_counted sp_counted := ok_counted W  (PySem.W.mg_of X G a7) (fun_mk (st := s_counted) l7 c7 k7)
  have h_least_count : Has l.prog w K mg base 1 "least_count" P_least_count sp_least_count := ok_least_count W  (PySem.W.mg_of X G a8) (fun_mk (st := s_least_count) l8 c8 k8)
  have h_is_ready : Has l.prog w K mg base 1 "is_ready" P_is_ready sp_is_ready := ok_is_ready W  (PySem.W.mg_of X G a9) (fun_mk (st := s_is_ready) l9 c9 k9)
  have h_fire : Has l.prog w K mg base 1 "fire" P_fire sp_fire := ok_fire W  (PySem.W.mg_of X G a10) (fun_mk (st := s_fire) l10 c10 k10)
  have h__law_begun : Has l.prog w K mg base 1 "_law_begun" P__law_begun sp__law_begun := ok__law_begun W  (PySem.W.mg_of X G a11) (fun_mk (st := s__law_begun) l11 c11 k11)
  have h__law_next : Has l.prog w K mg base 1 "_law_next" P__law_next sp__law_next := ok__law_next W  (PySem.W.mg_of X G a12) (fun_mk (st := s__law_next) l12 c12 k12)
  have h__law_gcd : Has l.prog w K mg base 1 "_law_gcd" P__law_gcd sp__law_gcd := ok__law_gcd W  (PySem.W.mg_of X G a13) (fun_mk (st := s__law_gcd) l13 c13 k13)
  have h__law_first : Has l.prog w K mg base 1 "_law_first" P__law_first sp__law_first := ok__law_first W  (PySem.W.mg_of X G a14) (fun_mk (st := s__law_first) l14 c14 k14)
  have h__law_wrong_tasks : Has l.prog w K mg base 1 "_law_wrong_tasks" P__law_wrong_tasks sp__law_wrong_tasks := ok__law_wrong_tasks W  (PySem.W.mg_of X G a15) (fun_mk (st := s__law_wrong_tasks) l15 c15 k15)
  have h__law_wrong_lines : Has l.prog w K mg base 1 "_law_wrong_lines" P__law_wrong_lines sp__law_wrong_lines := ok__law_wrong_lines W  (PySem.W.mg_of X G a16) (fun_mk (st := s__law_wrong_lines) l16 c16 k16)
  have h_is_between : Has l.prog w K mg base 2 "is_between" P_is_between sp_is_between := ok_is_between W h_is_whole (PySem.W.mg_of X G a17) (fun_mk (st := s_is_between) l17 c17 k17)
  have hg_is_between : Has l.prog w K mg base 2 "is_between" P_is_between sg_is_between := okg_is_between W hg_is_whole (PySem.W.mg_of X G a17) (fun_mk (st := s_is_between) l17 c17 k17)
  have h_task_number : Has l.prog w K mg base 2 "task_number" P_task_number sp_task_number := ok_task_number W h_task_names (PySem.W.mg_of X G a18) (fun_mk (st := s_task_number) l18 c18 k18)
  have h_at_state : Has l.prog w K mg base 2 "at_state" P_at_state sp_at_state := ok_at_state W h_task_names h_turned (PySem.W.mg_of X G a19) (fun_mk (st := s_at_state) l19 c19 k19)
  have h_leading_to : Has l.prog w K mg base 2 "leading_to" P_leading_to sp_leading_to := ok_leading_to W h_task_names (PySem.W.mg_of X G a20) (fun_mk (st := s_leading_to) l20 c20 k20)
  have h_leading_from : Has l.prog w K mg base 2 "leading_from" P_leading_from sp_leading_from := ok_leading_from W h_task_names (PySem.W.mg_of X G a21) (fun_mk (st := s_leading_from) l21 c21 k21)
  have h_need_told : Has l.prog w K mg base 2 "need_told" P_need_told sp_need_told := ok_need_told W h_counted h_least_count (PySem.W.mg_of X G a22) (fun_mk (st := s_need_told) l22 c22 k22)
  have h__law_of : Has l.prog w K mg base 2 "_law_of" P__law_of sp__law_of := ok__law_of W h__law_next (PySem.W.mg_of X G a23) (fun_mk (st := s__law_of) l23 c23 k23)
  have h__law_names : Has l.prog w K mg base 2 "_law_names" P__law_names sp__law_names := ok__law_names W h__law_next (PySem.W.mg_of X G a24) (fun_mk (st := s__law_names) l24 c24 k24)
  have h__law_shared : Has l.prog w K mg base 2 "_law_shared" P__law_shared sp__law_shared := ok__law_shared W h__law_next (PySem.W.mg_of X G a25) (fun_mk (st := s__law_shared) l25 c25 k25)
  have h__law_bent : Has l.prog w K mg base 2 "_law_bent" P__law_bent sp__law_bent := ok__law_bent W h__law_next (PySem.W.mg_of X G a26) (fun_mk (st := s__law_bent) l26 c26 k26)
  have h__law_edge : Has l.prog w K mg base 2 "_law_edge" P__law_edge sp__law_edge := ok__law_edge W h__law_next (PySem.W.mg_of X G a27) (fun_mk (st := s__law_edge) l27 c27 k27)
  have h__law_wrongs : Has l.prog w K mg base 2 "_law_wrongs" P__law_wrongs sp__law_wrongs := ok__law_wrongs W h__law_wrong_tasks h__law_wrong_lines (PySem.W.mg_of X G a28) (fun_mk (st := s__law_wrongs) l28 c28 k28)
  have h_are_between : Has l.prog w K mg base 3 "are_between" P_are_between sp_are_between := ok_are_between W h_is_between (PySem.W.mg_of X G a29) (fun_mk (st := s_are_between) l29 c29 k29)
  have hg_are_between : Has l.prog w K mg base 3 "are_between" P_are_between sg_are_between := okg_are_between W hg_is_between (PySem.W.mg_of X G a29) (fun_mk (st := s_are_between) l29 c29 k29)
  have h_need_number : Has l.prog w K mg base 3 "need_number" P_need_number sp_need_number := ok_need_number W h_is_between (PySem.W.mg_of X G a30) (fun_mk (st := s_need_number) l30 c30 k30)
  have hx_need_number : HasX l.prog w K mg base 3 "need_number" P_need_number spx_need_number := HasS.orX h_need_number (okx_need_number W hg_is_between e_BadNumber (PySem.W.mg_of X G a30) (fun_mk (st := s_need_number) l30 c30 k30))
  have h__law_line : Has l.prog w K mg base 3 "_law_line" P__law_line sp__law_line := ok__law_line W h__law_gcd h__law_next h__law_of h__law_shared (PySem.W.mg_of X G a31) (fun_mk (st := s__law_line) l31 c31 k31)
  have h__law_tasks : Has l.prog w K mg base 3 "_law_tasks" P__law_tasks sp__law_tasks := ok__law_tasks W h__law_names h__law_next (PySem.W.mg_of X G a32) (fun_mk (st := s__law_tasks) l32 c32 k32)
  have h_is_task : Has l.prog w K mg base 4 "is_task" P_is_task sp_is_task := ok_is_task W h_is_name h_is_tuple_of h_are_between (PySem.W.mg_of X G a33) (fun_mk (st := s_is_task) l33 c33 k33)
  have hg_is_task : Has l.prog w K mg base 4 "is_task" P_is_task sg_is_task := okg_is_task W hg_is_name hg_is_tuple_of hg_are_between (PySem.W.mg_of X G a33) (fun_mk (st := s_is_task) l33 c33 k33)
  have h_is_line : Has l.prog w K mg base 4 "is_line" P_is_line sp_is_line := ok_is_line W h_is_name h_is_tuple_of h_are_between h_is_between (PySem.W.mg_of X G a34) (fun_mk (st := s_is_line) l34 c34 k34)
  have hg_is_line : Has l.prog w K mg base 4 "is_line" P_is_line sg_is_line := okg_is_line W hg_is_name hg_is_tuple_of hg_are_between hg_is_between (PySem.W.mg_of X G a34) (fun_mk (st := s_is_line) l34 c34 k34)
  have h_look_at_state : Has l.prog w K mg base 4 "look_at_state" P_look_at_state sp_look_at_state := ok_look_at_state W h_are_between h_is_tuple_of (PySem.W.mg_of X G a35) (fun_mk (st := s_look_at_state) l35 c35 k35)
  have hx_look_at_state : HasX l.prog w K mg base 4 "look_at_state" P_look_at_state spx_look_at_state := HasS.orX h_look_at_state (okx_look_at_state W hg_are_between hg_is_tuple_of e_BadState (PySem.W.mg_of X G a35) (fun_mk (st := s_look_at_state) l35 c35 k35))
  have h__law_graph : Has l.prog w K mg base 4 "_law_graph" P__law_graph sp__law_graph := ok__law_graph W h__law_next h__law_tasks h__law_line (PySem.W.mg_of X G a36) (fun_mk (st := s__law_graph) l36 c36 k36)
  have h_has_graph_form : Has l.prog w K mg base 5 "has_graph_form" P_has_graph_form sp_has_graph_form := ok_has_graph_form W h_is_tuple_of h_is_task h_is_line (PySem.W.mg_of X G a37) (fun_mk (st := s_has_graph_form) l37 c37 k37)
  have hg_has_graph_form : Has l.prog w K mg base 5 "has_graph_form" P_has_graph_form sg_has_graph_form := okg_has_graph_form W hg_is_tuple_of hg_is_task hg_is_line (PySem.W.mg_of X G a37) (fun_mk (st := s_has_graph_form) l37 c37 k37)
  have h_look_at_graph : Has l.prog w K mg base 6 "look_at_graph" P_look_at_graph sp_look_at_graph := ok_look_at_graph W h_has_graph_form h_task_names h_fits (PySem.W.mg_of X G a38) (fun_mk (st := s_look_at_graph) l38 c38 k38)
  have hx_look_at_graph : HasX l.prog w K mg base 6 "look_at_graph" P_look_at_graph spx_look_at_graph := HasS.orX h_look_at_graph (okx_look_at_graph W hg_has_graph_form h_task_names hg_fits e_BadGraph (PySem.W.mg_of X G a38) (fun_mk (st := s_look_at_graph) l38 c38 k38))
  have h_tuple_text : Has l.prog w K mg base 6 "tuple_text" P_tuple_text sp_tuple_text := okr_tuple_text W  (PySem.W.mg_of X G a39) (fun_mk (st := s_tuple_text) l39 c39 k39)
  have h_need_graph : Has l.prog w K mg base 7 "need_graph" P_need_graph sp_need_graph := ok_need_graph W h_look_at_graph (PySem.W.mg_of X G a40) (fun_mk (st := s_need_graph) l40 c40 k40)
  have hx_need_graph : HasX l.prog w K mg base 7 "need_graph" P_need_graph spx_need_graph := HasS.orX h_need_graph (okx_need_graph W hx_look_at_graph (PySem.W.mg_of X G a40) (fun_mk (st := s_need_graph) l40 c40 k40))
  have h_first_state : Has l.prog w K mg base 7 "first_state" P_first_state sp_first_state := ok_first_state W h_look_at_graph h_beginning (PySem.W.mg_of X G a41) (fun_mk (st := s_first_state) l41 c41 k41)
  have hx_first_state : HasX l.prog w K mg base 7 "first_state" P_first_state spx_first_state := HasS.orX h_first_state (okx_first_state W hx_look_at_graph h_beginning (PySem.W.mg_of X G a41) (fun_mk (st := s_first_state) l41 c41 k41))
  have h_need_state : Has l.prog w K mg base 7 "need_state" P_need_state sp_need_state := ok_need_state W h_look_at_graph h_look_at_state (PySem.W.mg_of X G a42) (fun_mk (st := s_need_state) l42 c42 k42)
  have hx_need_state : HasX l.prog w K mg base 7 "need_state" P_need_state spx_need_state := HasS.orX h_need_state (okx_need_state W hx_look_at_graph hx_look_at_state (PySem.W.mg_of X G a42) (fun_mk (st := s_need_state) l42 c42 k42))
  have h_can_fire : Has l.prog w K mg base 7 "can_fire" P_can_fire sp_can_fire := ok_can_fire W h_look_at_graph h_look_at_state h_leading_to h_is_ready (PySem.W.mg_of X G a43) (fun_mk (st := s_can_fire) l43 c43 k43)
  have hx_can_fire : HasX l.prog w K mg base 7 "can_fire" P_can_fire spx_can_fire := HasS.orX h_can_fire (okx_can_fire W hx_look_at_graph hx_look_at_state h_leading_to h_is_ready (PySem.W.mg_of X G a43) (fun_mk (st := s_can_fire) l43 c43 k43))
  have h_fired : Has l.prog w K mg base 7 "fired" P_fired sp_fired := ok_fired W h_look_at_graph h_look_at_state h_task_number h_leading_from h_leading_to h_fire (PySem.W.mg_of X G a44) (fun_mk (st := s_fired) l44 c44 k44)
  have hx_fired : HasX l.prog w K mg base 7 "fired" P_fired spx_fired := HasS.orX h_fired (okx_fired W hx_look_at_graph hx_look_at_state h_task_number h_leading_from h_leading_to h_fire e_BadFiring (PySem.W.mg_of X G a44) (fun_mk (st := s_fired) l44 c44 k44))
  have h_look_at_line : Has l.prog w K mg base 7 "look_at_line" P_look_at_line sp_look_at_line := ok_look_at_line W h_look_at_graph h_need_number (PySem.W.mg_of X G a45) (fun_mk (st := s_look_at_line) l45 c45 k45)
  have hx_look_at_line : HasX l.prog w K mg base 7 "look_at_line" P_look_at_line spx_look_at_line := HasS.orX h_look_at_line (okx_look_at_line W hx_look_at_graph hx_need_number (PySem.W.mg_of X G a45) (fun_mk (st := s_look_at_line) l45 c45 k45))
  have h_graph_text : Has l.prog w K mg base 7 "graph_text" P_graph_text sp_graph_text := ok_graph_text W h_look_at_graph h_tuple_text (PySem.W.mg_of X G a46) (fun_mk (st := s_graph_text) l46 c46 k46)
  have hx_graph_text : HasX l.prog w K mg base 7 "graph_text" P_graph_text spx_graph_text := HasS.orX h_graph_text (okx_graph_text W hx_look_at_graph h_tuple_text (PySem.W.mg_of X G a46) (fun_mk (st := s_graph_text) l46 c46 k46))
  have h_graph_at : Has l.prog w K mg base 8 "graph_at" P_graph_at sp_graph_at := ok_graph_at W h_need_state h_at_state (PySem.W.mg_of X G a47) (fun_mk (st := s_graph_at) l47 c47 k47)
  have hx_graph_at : HasX l.prog w K mg base 8 "graph_at" P_graph_at spx_graph_at := HasS.orX h_graph_at (okx_graph_at W hx_need_state h_at_state (PySem.W.mg_of X G a47) (fun_mk (st := s_graph_at) l47 c47 k47))
  have h_gave : Has l.prog w K mg base 8 "gave" P_gave sp_gave := ok_gave W h_look_at_line h_need_number h_counted (PySem.W.mg_of X G a48) (fun_mk (st := s_gave) l48 c48 k48)
  have hx_gave : HasX l.prog w K mg base 8 "gave" P_gave spx_gave := HasS.orX h_gave (okx_gave W hx_look_at_line hx_need_number h_counted (PySem.W.mg_of X G a48) (fun_mk (st := s_gave) l48 c48 k48))
  have h_took : Has l.prog w K mg base 8 "took" P_took sp_took := ok_took W h_look_at_line h_need_number h_counted (PySem.W.mg_of X G a49) (fun_mk (st := s_took) l49 c49 k49)
  have hx_took : HasX l.prog w K mg base 8 "took" P_took spx_took := HasS.orX h_took (okx_took W hx_look_at_line hx_need_number h_counted (PySem.W.mg_of X G a49) (fun_mk (st := s_took) l49 c49 k49))
  have h_need : Has l.prog w K mg base 8 "need" P_need sp_need := ok_need W h_look_at_line h_need_number h_need_told (PySem.W.mg_of X G a50) (fun_mk (st := s_need) l50 c50 k50)
  have hx_need : HasX l.prog w K mg base 8 "need" P_need spx_need := HasS.orX h_need (okx_need W hx_look_at_line hx_need_number h_need_told (PySem.W.mg_of X G a50) (fun_mk (st := s_need) l50 c50 k50))
  have h__law_called : Has l.prog w K mg base 9 "_law_called" P__law_called sp__law_called := ok__law_called W h_need_graph h_first_state h_graph_text h_need_state h_graph_at h_can_fire h_fired h_gave h_took h_need (PySem.W.mg_of X G a51) (fun_mk (st := s__law_called) l51 c51 k51)
  have hx__law_called : HasX l.prog w K mg base 9 "_law_called" P__law_called spx__law_called := HasS.orX h__law_called (okx__law_called W hx_need_graph hx_first_state hx_graph_text hx_need_state hx_graph_at hx_can_fire hx_fired hx_gave hx_took hx_need (PySem.W.mg_of X G a51) (fun_mk (st := s__law_called) l51 c51 k51))
  have h__law_refused : Has l.prog w K mg base 10 "_law_refused" P__law_refused sp__law_refused := ok__law_refused W hx__law_called ef c_RateError c_BadGraph (PySem.W.mg_of X G a52) (fun_mk (st := s__law_refused) l52 c52 k52)
  exact okf_law W h__law_begun h__law_next h__law_graph h__law_bent h__law_edge h__law_refused h_first_state h__law_first h_need_graph h__law_wrongs (PySem.W.mg_of X G a53) (fun_mk (st := s_law) l53 c53 k53)
end D
open PySem PySem.W PyProof.Rows
set_option maxHeartbeats 0 in
theorem PySem.Challenge.cw_evenrates_k00_whole_graphs_looked_at_holds : PySem.Challenge.rw_evenrates_k00_whole_graphs_looked_at.Holds := by
  w_on; o_law; k_head; (case hw => w_witness2)
  k_fill
  refine D.top_walk (l := PySem.Challenge.rw_evenrates_k00_whole_graphs_looked_at) (n := 63) (k := 11) (x := "script") (sp := fun w => D.lfSp _ D.sp_law) rfl (by decide) rfl ⟨⟨rfl, by decide, by decide⟩, rfl⟩ (fun w h Y => PySem.W.kIn_of Y) ?F (fun _ _ a ns hl _ hS => D.law_start hl hS fun _ => rfl)
  case F =>
    intro w mg fa h KX G hmg
    refine' D.all_mk KX G hmg ?a0 ?l0 ?c0 ?k0 ?a1 ?l1 ?c1 ?k1 ?a2 ?l2 ?c2 ?k2 ?a3 ?l3 ?c3 ?k3 ?a4 ?l4 ?c4 ?k4 ?a5 ?l5 ?c5 ?k5 ?a6 ?l6 ?c6 ?k6 ?a7 ?l7 ?c7 ?k7 ?a8 ?l8 ?c8 ?k8 ?a9 ?l9 ?c9 ?k9 ?a10 ?l10 ?c10 ?k10 ?a11 ?l11 ?c11 ?k11 ?a12 ?l12 ?c12 ?k12 ?a13 ?l13 ?c13 ?k13 ?a14 ?l14 ?c14 ?k14 ?a15 ?l15 ?c15 ?k15 ?a16 ?l16 ?c16 ?k16 ?a17 ?l17 ?c17 ?k17 ?a18 ?l18 ?c18 ?k18 ?a19 ?l19 ?c19 ?k19 ?a20 ?l20 ?c20 ?k20 ?a21 ?l21 ?c21 ?k21 ?a22 ?l22 ?c22 ?k22 ?a23 ?l23 ?c23 ?k23 ?a24 ?l24 ?c24 ?k24 ?a25 ?l25 ?c25 ?k25 ?a26 ?l26 ?c26 ?k26 ?a27 ?l27 ?c27 ?k27 ?a28 ?l28 ?c28 ?k28 ?a29 ?l29 ?c29 ?k29 ?a30 ?l30 ?c30 ?k30 ?a31 ?l31 ?c31 ?k31 ?a32 ?l32 ?c32 ?k32 ?a33 ?l33 ?c33 ?k33 ?a34 ?l34 ?c34 ?k34 ?a35 ?l35 ?c35 ?k35 ?a36 ?l36 ?c36 ?k36 ?a37 ?l37 ?c37 ?k37 ?a38 ?l38 ?c38 ?k38 ?a39 ?l39 ?c39 ?k39 ?a40 ?l40 ?c40 ?k40 ?a41 ?l41 ?c41 ?k41 ?a42 ?l42 ?c42 ?k42 ?a43 ?l43 ?c43 ?k43 ?a44 ?l44 ?c44 ?k44 ?a45 ?l45 ?c45 ?k45 ?a46 ?l46 ?c46 ?k46 ?a47 ?l47 ?c47 ?k47 ?a48 ?l48 ?c48 ?k48 ?a49 ?l49 ?c49 ?k49 ?a50 ?l50 ?c50 ?k50 ?a51 ?l51 ?c51 ?k51 ?a52 ?l52 ?c52 ?k52 ?a53 ?l53 ?c53 ?k53 ?z0 ?z1 ?z2 ?z3 ?z4 ?z5 ?z6 ?z7 ?z8 ?z9 ?z10 ?z11 ?z12 ?z13 ?z14 ?z15 ?z16 ?z17 ?z18 ?z19 ?z20 ?z21 ?z22 ?z23 ?gC_RateError ?bs1_RateError ?bs2_RateError ?bs3_RateError ?gC_BadName ?gC_BadNumber ?gC_BadFiring ?gC_BadGraph ?gC_BadState ?xL_BadName ?sa_BadName ?ga_BadName ?gg_BadName ?ai_BadName ?ti_BadName ?li_BadName ?ci_BadName ?ki_BadName ?kC_BadName ?eC_BadName ?tC_BadName ?hC_BadName ?no_place_BadName ?no_value_BadName ?xL_BadNumber ?sa_BadNumber ?ga_BadNumber ?gg_BadNumber ?ai_BadNumber ?ti_BadNumber ?li_BadNumber ?ci_BadNumber ?ki_BadNumber ?kC_BadNumber ?eC_BadNumber ?tC_BadNumber ?hC_BadNumber ?no_place_BadNumber ?no_value_BadNumber ?xL_BadFiring ?sa_BadFiring ?ga_BadFiring ?gg_BadFiring ?ai_BadFiring ?ti_BadFiring ?li_BadFiring ?ci_BadFiring ?ki_BadFiring ?kC_BadFiring ?eC_BadFiring ?tC_BadFiring ?hC_BadFiring ?no_place_BadFiring ?no_value_BadFiring ?xL_BadGraph ?sa_BadGraph ?ga_BadGraph ?gg_BadGraph ?ai_BadGraph ?ti_BadGraph ?li_BadGraph ?ci_BadGraph ?ki_BadGraph ?kC_BadGraph ?eC_BadGraph ?tC_BadGraph ?hC_BadGraph ?no_place_BadGraph ?no_value_BadGraph ?xL_BadState ?sa_BadState ?ga_BadState ?gg_BadState ?ai_BadState ?ti_BadState ?li_BadState ?ci_BadState ?ki_BadState ?kC_BadState ?eC_BadState ?tC_BadState ?hC_BadState ?no_place_BadState ?no_value_BadState ?eC_RateError ?tC_RateError ?iC_RateError ?sb_BadName_RateError ?sb_BadNumber_RateError ?sb_BadFiring_RateError ?sb_BadGraph_RateError ?sb_BadState_RateError ?iC_BadGraph ?sb_BadName_BadGraph ?sb_BadNumber_BadGraph ?sb_BadFiring_BadGraph ?sb_BadGraph_BadGraph ?sb_BadState_BadGraph
    (case a0 => k_is)
    (case l0 => k_is)
    (case c0 => k_is)
    (case k0 => k_is)
    (case a1 => k_is)
    (case l1 => k_is)
    (case c1 => k_is)
    (case k1 => k_is)
    (case a2 => k_is)
    (case l2 => k_is)
    (case c2 => k_is)
    (case k2 => k_is)
    (case a3 => k_is)
    (case l3 => k_is)
    (case c3 => k_is)
    (case k3 => k_is)
    (case a4 => k_is)
    (case l4 => k_is)
    (case c4 => k_is)
    (case k4 => k_is)
    (case a5 => k_is)
    (case l5 => k_is)
    (case c5 => k_is)
    (case k5 => k_is)
    (case a6 => k_is)
    (case l6 => k_is)
    (case c6 => k_is)
    (case k6 => k_is)
    (case a7 => k_is)
    (case l7 => k_is)
    (case c7 => k_is)
    (case k7 => k_is)
    (case a8 => k_is)
    (case l8 => k_is)
    (case c8 => k_is)
    (case k8 => k_is)
    (case a9 => k_is)
    (case l9 => k_is)
    (case c9 => k_is)
    (case k9 => k_is)
    (case a10 => k_is)
    (case l10 => k_is)
    (case c10 => k_is)
    (case k10 => k_is)
    (case a11 => k_is)
    (case l11 => k_is)
    (case c11 => k_is)
    (case k11 => k_is)
    (case a12 => k_is)
    (case l12 => k_is)
    (case c12 => k_is)
    (case k12 => k_is)
    (case a13 => k_is)
    (case l13 => k_is)
    (case c13 => k_is)
    (case k13 => k_is)
    (case a14 => k_is)
    (case l14 => k_is)
    (case c14 => k_is)
    (case k14 => k_is)
    (case a15 => k_is)
    (case l15 => k_is)
    (case c15 => k_is)
    (case k15 => k_is)
    (case a16 => k_is)
    (case l16 => k_is)
    (case c16 => k_is)
    (case k16 => k_is)
    (case a17 => k_is)
    (case l17 => k_is)
    (case c17 => k_is)
    (case k17 => k_is)
    (case a18 => k_is)
    (case l18 => k_is)
    (case c18 => k_is)
    (case k18 => k_is)
    (case a19 => k_is)
    (case l19 => k_is)
    (case c19 => k_is)
    (case k19 => k_is)
    (case a20 => k_is)
    (case l20 => k_is)
    (case c20 => k_is)
    (case k20 => k_is)
    (case a21 => k_is)
    (case l21 => k_is)
    (case c21 => k_is)
    (case k21 => k_is)
    (case a22 => k_is)
    (case l22 => k_is)
    (case c22 => k_is)
    (case k22 => k_is)
    (case a23 => k_is)
    (case l23 => k_is)
    (case c23 => k_is)
    (case k23 => k_is)
    (case a24 => k_is)
    (case l24 => k_is)
    (case c24 => k_is)
    (case k24 => k_is)
    (case a25 => k_is)
    (case l25 => k_is)
    (case c25 => k_is)
    (case k25 => k_is)
    (case a26 => k_is)
    (case l26 => k_is)
    (case c26 => k_is)
    (case k26 => k_is)
    (case a27 => k_is)
    (case l27 => k_is)
    (case c27 => k_is)
    (case k27 => k_is)
    (case a28 => k_is)
    (case l28 => k_is)
    (case c28 => k_is)
    (case k28 => k_is)
    (case a29 => k_is)
    (case l29 => k_is)
    (case c29 => k_is)
    (case k29 => k_is)
    (case a30 => k_is)
    (case l30 => k_is)
    (case c30 => k_is)
    (case k30 => k_is)
    (case a31 => k_is)
    (case l31 => k_is)
    (case c31 => k_is)
    (case k31 => k_is)
    (case a32 => k_is)
    (case l32 => k_is)
    (case c32 => k_is)
    (case k32 => k_is)
    (case a33 => k_is)
    (case l33 => k_is)
    (case c33 => k_is)
    (case k33 => k_is)
    (case a34 => k_is)
    (case l34 => k_is)
    (case c34 => k_is)
    (case k34 => k_is)
    (case a35 => k_is)
    (case l35 => k_is)
    (case c35 => k_is)
    (case k35 => k_is)
    (case a36 => k_is)
    (case l36 => k_is)
    (case c36 => k_is)
    (case k36 => k_is)
    (case a37 => k_is)
    (case l37 => k_is)
    (case c37 => k_is)
    (case k37 => k_is)
    (case a38 => k_is)
    (case l38 => k_is)
    (case c38 => k_is)
    (case k38 => k_is)
    (case a39 => k_is)
    (case l39 => k_is)
    (case c39 => k_is)
    (case k39 => k_is)
    (case a40 => k_is)
    (case l40 => k_is)
    (case c40 => k_is)
    (case k40 => k_is)
    (case a41 => k_is)
    (case l41 => k_is)
    (case c41 => k_is)
    (case k41 => k_is)
    (case a42 => k_is)
    (case l42 => k_is)
    (case c42 => k_is)
    (case k42 => k_is)
    (case a43 => k_is)
    (case l43 => k_is)
    (case c43 => k_is)
    (case k43 => k_is)
    (case a44 => k_is)
    (case l44 => k_is)
    (case c44 => k_is)
    (case k44 => k_is)
    (case a45 => k_is)
    (case l45 => k_is)
    (case c45 => k_is)
    (case k45 => k_is)
    (case a46 => k_is)
    (case l46 => k_is)
    (case c46 => k_is)
    (case k46 => k_is)
    (case a47 => k_is)
    (case l47 => k_is)
    (case c47 => k_is)
    (case k47 => k_is)
    (case a48 => k_is)
    (case l48 => k_is)
    (case c48 => k_is)
    (case k48 => k_is)
    (case a49 => k_is)
    (case l49 => k_is)
    (case c49 => k_is)
    (case k49 => k_is)
    (case a50 => k_is)
    (case l50 => k_is)
    (case c50 => k_is)
    (case k50 => k_is)
    (case a51 => k_is)
    (case l51 => k_is)
    (case c51 => k_is)
    (case k51 => k_is)
    (case a52 => k_is)
    (case l52 => k_is)
    (case c52 => k_is)
    (case k52 => k_is)
    (case a53 => k_is)
    (case l53 => k_is)
    (case c53 => k_is)
    (case k53 => k_is)
    (case z0 => k_is)
    (case z1 => k_is)
    (case z2 => k_is)
    (case z3 => k_is)
    (case z4 => k_is)
    (case z5 => k_is)
    (case z6 => k_is)
    (case z7 => k_is)
    (case z8 => k_is)
    (case z9 => k_is)
    (case z10 => k_is)
    (case z11 => k_is)
    (case z12 => k_is)
    (case z13 => k_is)
    (case z14 => k_is)
    (case z15 => k_is)
    (case z16 => k_is)
    (case z17 => k_is)
    (case z18 => k_is)
    (case z19 => k_is)
    (case z20 => k_is)
    (case z21 => k_is)
    (case z22 => k_is)
    (case z23 => k_is)
    (case gC_RateError => k_is)
    (case bs1_RateError => k_is)
    (case bs2_RateError => k_is)
    (case bs3_RateError => k_is)
    (case gC_BadName => k_is)
    (case gC_BadNumber => k_is)
    (case gC_BadFiring => k_is)
    (case gC_BadGraph => k_is)
    (case gC_BadState => k_is)
    (case xL_BadName => k_is)
    (case sa_BadName => k_is)
    (case ga_BadName => k_is)
    (case gg_BadName => k_is)
    (case ai_BadName => k_is)
    (case ti_BadName => k_is)
    (case li_BadName => k_is)
    (case ci_BadName => k_is)
    (case ki_BadName => k_is)
    (case kC_BadName => k_is)
    (case eC_BadName => k_is)
    (case tC_BadName => k_is)
    (case hC_BadName => k_is)
    (case no_place_BadName => k_is)
    (case no_value_BadName => k_is)
    (case xL_BadNumber => k_is)
    (case sa_BadNumber => k_is)
    (case ga_BadNumber => k_is)
    (case gg_BadNumber => k_is)
    (case ai_BadNumber => k_is)
    (case ti_BadNumber => k_is)
    (case li_BadNumber => k_is)
    (case ci_BadNumber => k_is)
    (case ki_BadNumber => k_is)
    (case kC_BadNumber => k_is)
    (case eC_BadNumber => k_is)
    (case tC_BadNumber => k_is)
    (case hC_BadNumber => k_is)
    (case no_place_BadNumber => k_is)
    (case no_value_BadNumber => k_is)
    (case xL_BadFiring => k_is)
    (case sa_BadFiring => k_is)
    (case ga_BadFiring => k_is)
    (case gg_BadFiring => k_is)
    (case ai_BadFiring => k_is)
    (case ti_BadFiring => k_is)
    (case li_BadFiring => k_is)
    (case ci_BadFiring => k_is)
    (case ki_BadFiring => k_is)
    (case kC_BadFiring => k_is)
    (case eC_BadFiring => k_is)
    (case tC_BadFiring => k_is)
    (case hC_BadFiring => k_is)
    (case no_place_BadFiring => k_is)
    (case no_value_BadFiring => k_is)
    (case xL_BadGraph => k_is)
    (case sa_BadGraph => k_is)
    (case ga_BadGraph => k_is)
    (case gg_BadGraph => k_is)
    (case ai_BadGraph => k_is)
    (case ti_BadGraph => k_is)
    (case li_BadGraph => k_is)
    (case ci_BadGraph => k_is)
    (case ki_BadGraph => k_is)
    (case kC_BadGraph => k_is)
    (case eC_BadGraph => k_is)
    (case tC_BadGraph => k_is)
    (case hC_BadGraph => k_is)
    (case no_place_BadGraph => k_is)
    (case no_value_BadGraph => k_is)
    (case xL_BadState => k_is)
    (case sa_BadState => k_is)
    (case ga_BadState => k_is)
    (case gg_BadState => k_is)
    (case ai_BadState => k_is)
    (case ti_BadState => k_is)
    (case li_BadState => k_is)
    (case ci_BadState => k_is)
    (case ki_BadState => k_is)
    (case kC_BadState => k_is)
    (case eC_BadState => k_is)
    (case tC_BadState => k_is)
    (case hC_BadState => k_is)
    (case no_place_BadState => k_is)
    (case no_value_BadState => k_is)
    (case eC_RateError => k_is)
    (case tC_RateError => k_is)
    (case iC_RateError => k_is)
    (case sb_BadName_RateError => k_is)
    (case sb_BadNumber_RateError => k_is)
    (case sb_BadFiring_RateError => k_is)
    (case sb_BadGraph_RateError => k_is)
    (case sb_BadState_RateError => k_is)
    (case iC_BadGraph => k_is)
    (case sb_BadName_BadGraph => k_is)
    (case sb_BadNumber_BadGraph => k_is)
    (case sb_BadFiring_BadGraph => k_is)
    (case sb_BadGraph_BadGraph => k_is)
    (case sb_BadState_BadGraph => k_is)

