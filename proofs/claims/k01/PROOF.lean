import PyProof.Rows.All
import Wide.All
import OpenK.AllK
import Wide.FinOn
import HandS.ForExc
import HandS.Comp
import HandS.Dict
import HandS.Iter
import HandS.Text
import HandS.IsInst
import HandS.StrMore
import HandS.Flow
import HandS.Wide
import HandS.Deep
import HandS.CallSlots
import HandS.Defaults
import HandS.EndBits
import PySem.Challenge.RW_resampler_k01_names_integers_words
import HandS.Codes
set_option Elab.async false
set_option linter.all false
set_option maxRecDepth 100000
namespace MP
open PySem PySem.Spec PyProof.Rows L2

/-! # a layer of plain values over HandS: what never changes is a value (MV), what changes stands in a small heap (MH) -/
abbrev Tx := List Nat
abbrev MK := Sum Int Tx
/-- types of the language -/
inductive BT where
  | none | bool | int | str | list | tuple | dict
  deriving DecidableEq
def BT.nm : BT → String
  | .none => "NoneType" | .bool => "bool" | .int => "int" | .str => "str" | .list => "list" | .tuple => "tuple" | .dict => "dict"
inductive MV where
  | non | bl (b : Bool) | int (i : Int) | str (x : Tx) | ty (n : BT)
  | tup (xs : List MV) | lst (xs : List MV) | klst (xs : List MV)
  | dct (ks : List MK) (vs : List MV)
  | obj (C : Nat) (fs : List Nat) (vs : List MV)
  | ref (a : Addr)
  | cls (C : Nat)
inductive MO where
  | lst (xs : List MV) | dct (ks : List MK) (vs : List MV) | ins (C : Nat) (fs : List Nat) (vs : List MV)
abbrev MH := Addr → Option MO
def mup (G : MH) (a : Addr) (o : MO) : MH := fun b => if b = a then some o else G b
theorem mup_same {G : MH} {a : Addr} {o : MO} : mup G a o a = some o := if_pos rfl
theorem mup_ne {G : MH} {a b : Addr} {o : MO} (h : b ≠ a) : mup G a o b = G b := if_neg h
theorem mup_mup {G : MH} {a : Addr} {o u : MO} : mup (mup G a o) a u = mup G a u := by
  funext b
  unfold mup
  split <;> rfl
abbrev MSt := List (Option MV)

def kOf : MK → Key
  | .inl i => .inl i
  | .inr x => .inr ⟨x.toArray⟩

/-- a text: of signs, not too long -/
def TxOk (x : Tx) : Prop := x.length ≤ sizeLine ∧ ∀ c ∈ x, c < 1114112
/-- the world of a program: the written part, where its classes stand, the names of fields -/
structure Wd where
  K : PySem.W.Frag
  cad : Nat → Addr
  fnm : Nat → Str
section
variable (w : Wd) (F : Hp)
mutual
def Rep : MV → V → Prop
  | .non, v => v = .non
  | .bl b, v => v = .bl b
  | .int i, v => v = .int i
  | .str x, v => v = .str ⟨x.toArray⟩ ∧ TxOk x
  | .ty n, v => v = .ty n.nm
  | .ref a, v => v = .ref a
  | .cls C, v => v = .ref (w.cad C)
  | .tup xs, v => ∃ a ys, v = .ref a ∧ (F a = some (.tup ys) ∨ ∃ (o : Obj) (its : Array Value) (n : Nat), w.K.lookup a = some o ∧ o.cls = .type "tuple" ∧ o.data = .seq its n ∧ its.size ≤ sizeLine ∧ Vals ys its.toList) ∧ RepL xs ys
  | .lst xs, v => ∃ a ys, v = .ref a ∧ F a = some (.lst ys) ∧ RepL xs ys
  | .klst xs, v => ∃ a ys, v = .ref a ∧ ((∃ o, F a = some (.frz o (.lst ys))) ∨ ∃ (o : Obj) (its : Array Value) (n : Nat), w.K.lookup a = some o ∧ o.cls = .type "list" ∧ o.dict = none ∧ o.data = .seq its n ∧ its.size ≤ sizeLine ∧ Vals ys its.toList) ∧ RepL xs ys
  | .dct ks vs, v => ∃ (a : Addr) (kvs : List (Key × V)), v = .ref a ∧ F a = some (.dK kvs) ∧ kvs.map (·.1) = ks.map kOf ∧ RepL vs (kvs.map (·.2))
  | .obj C fs vs, v => ∃ (a dx : Addr) (fvs : List (Str × V)), v = .ref a ∧ F a = some (.ins (w.cad C) dx fvs) ∧ F dx = some (.own a) ∧ fvs.map (·.1) = fs.map w.fnm ∧ RepL vs (fvs.map (·.2))
def RepL : List MV → List V → Prop
  | [], ys => ys = []
  | x :: xs, ys => ∃ y r, ys = y :: r ∧ Rep x y ∧ RepL xs r
end
def RepO : MO → HO → Prop
  | .lst xs, o => ∃ ys, o = .lst ys ∧ RepL w F xs ys
  | .dct ks vs, o => ∃ kvs : List (Key × V), o = .dK kvs ∧ kvs.map (·.1) = ks.map kOf ∧ RepL w F vs (kvs.map (·.2))
  | .ins C fs vs, o => ∃ (dx : Addr) (fvs : List (Str × V)), o = .ins (w.cad C) dx fvs ∧ fvs.map (·.1) = fs.map w.fnm ∧ RepL w F vs (fvs.map (·.2))
end
def Ext (F F' : Hp) : Prop := ∀ a u, F a = some u → F' a = some u
theorem Ext.refl {F : Hp} : Ext F F := fun _ _ h => h
theorem Ext.trans {F F' F'' : Hp} (a : Ext F F') (b : Ext F' F'') : Ext F F'' := fun x u h => b x u (a x u h)

section
variable {w : Wd} {F F' F'' : Hp}
mutual
theorem Rep.ext (e : Ext F F') : ∀ {x : MV} {v : V}, Rep w F x v → Rep w F' x v
  | .non, _, h => h
  | .bl _, _, h => h
  | .int _, _, h => h
  | .str _, _, h => h
  | .ty _, _, h => h
  | .ref _, _, h => h
  | .cls _, _, h => h
  | .tup _, _, ⟨a, ys, h1, h2, h3⟩ => ⟨a, ys, h1, h2.imp (e _ _) id, RepL.ext e h3⟩
  | .lst _, _, ⟨a, ys, h1, h2, h3⟩ => ⟨a, ys, h1, e _ _ h2, RepL.ext e h3⟩
  | .klst _, _, ⟨a, ys, h1, h2, h3⟩ => ⟨a, ys, h1, h2.imp (fun ⟨o, q⟩ => ⟨o, e _ _ q⟩) id, RepL.ext e h3⟩
  | .dct _ _, _, ⟨a, kvs, h1, h2, h3, h4⟩ => ⟨a, kvs, h1, e _ _ h2, h3, RepL.ext e h4⟩
  | .obj _ _ _, _, ⟨a, dx, fvs, h1, h2, h3, h4, h5⟩ => ⟨a, dx, fvs, h1, e _ _ h2, e _ _ h3, h4, RepL.ext e h5⟩
theorem RepL.ext (e : Ext F F') : ∀ {xs : List MV} {vs : List V}, RepL w F xs vs → RepL w F' xs vs
  | [], _, h => h
  | _ :: _, _, ⟨y, r, h1, h2, h3⟩ => ⟨y, r, h1, Rep.ext e h2, RepL.ext e h3⟩
end
theorem RepO.ext (e : Ext F F') : ∀ {x : MO} {v : HO}, RepO w F x v → RepO w F' x v
  | .lst _, _, ⟨ys, h1, h2⟩ => ⟨ys, h1, h2.ext e⟩
  | .dct _ _, _, ⟨kvs, h1, h2, h3⟩ => ⟨kvs, h1, h2, h3.ext e⟩
  | .ins _ _ _, _, ⟨dx, fvs, h1, h2, h3⟩ => ⟨dx, fvs, h1, h2, h3.ext e⟩
theorem RepL.length : ∀ {xs : List MV} {vs : List V}, RepL w F xs vs → xs.length = vs.length
  | [], _, h => by rw [show _ = _ from h]; rfl
  | _ :: _, _, ⟨y, r, h1, _, h3⟩ => by rw [h1, List.length_cons, List.length_cons, RepL.length h3]
theorem RepL.get : ∀ {xs : List MV} {vs : List V} {i : Nat} {x : MV}, RepL w F xs vs → xs[i]? = some x → ∃ v, vs[i]? = some v ∧ Rep w F x v
  | [], _, _, _, _, e => by simp at e
  | x :: xs, _, 0, z, ⟨y, r, h1, h2, _⟩, e => by
    have e : x = z := by simpa using e
    subst e
    exact ⟨y, by rw [h1]; rfl, h2⟩
  | x :: xs, _, i + 1, z, ⟨y, r, h1, _, h3⟩, e => by
    obtain ⟨v, q1, q2⟩ := RepL.get (i := i) (x := z) h3 (by simpa using e)
    exact ⟨v, by rw [h1]; simpa using q1, q2⟩
theorem RepL.get' : ∀ {xs : List MV} {vs : List V} {i : Nat} {v : V}, RepL w F xs vs → vs[i]? = some v → ∃ x, xs[i]? = some x ∧ Rep w F x v
  | [], _, _, _, h, e => by rw [show _ = _ from h] at e; simp at e
  | x :: xs, _, 0, z, ⟨y, r, h1, h2, _⟩, e => by
    have e : y = z := by rw [h1] at e; simpa using e
    subst e
    exact ⟨x, rfl, h2⟩
  | x :: xs, _, i + 1, z, ⟨y, r, h1, _, h3⟩, e => by
    obtain ⟨v, q1, q2⟩ := RepL.get' (i := i) (v := z) h3 (by rw [h1] at e; simpa using e)
    exact ⟨v, by simpa using q1, q2⟩
theorem RepL.append : ∀ {xs : List MV} {vs : List V} {ys : List MV} {us : List V}, RepL w F xs vs → RepL w F ys us → RepL w F (xs ++ ys) (vs ++ us)
  | [], _, _, _, h, q => by rw [show _ = _ from h]; exact q
  | _ :: _, _, _, _, ⟨y, r, h1, h2, h3⟩, q => by rw [h1]; exact ⟨y, r ++ _, rfl, h2, RepL.append h3 q⟩
theorem RepL.take : ∀ {xs : List MV} {vs : List V} (n : Nat), RepL w F xs vs → RepL w F (xs.take n) (vs.take n)
  | [], _, n, h => by rw [show _ = _ from h]; simp [RepL]
  | _ :: _, _, 0, _ => by simp [RepL]
  | _ :: _, _, n + 1, ⟨y, r, h1, h2, h3⟩ => by rw [h1]; exact ⟨y, r.take n, rfl, h2, RepL.take n h3⟩
theorem RepL.drop : ∀ {xs : List MV} {vs : List V} (n : Nat), RepL w F xs vs → RepL w F (xs.drop n) (vs.drop n)
  | [], _, n, h => by rw [show _ = _ from h]; simp [RepL]
  | _ :: _, _, 0, h => h
  | _ :: _, _, n + 1, ⟨y, r, h1, _, h3⟩ => by rw [h1]; exact RepL.drop n h3
theorem RepL.set {x : MV} {v : V} (hx : Rep w F x v) : ∀ {xs : List MV} {vs : List V} (n : Nat), RepL w F xs vs → RepL w F (xs.set n x) (vs.set n v)
  | [], _, n, h => by rw [show _ = _ from h]; simp [RepL]
  | _ :: _, _, 0, ⟨y, r, h1, h2, h3⟩ => by rw [h1]; exact ⟨v, r, rfl, hx, h3⟩
  | _ :: _, _, n + 1, ⟨y, r, h1, h2, h3⟩ => by rw [h1]; exact ⟨y, r.set n v, rfl, h2, RepL.set hx n h3⟩
theorem RepL.erase : ∀ {xs : List MV} {vs : List V} (n : Nat), RepL w F xs vs → RepL w F (xs.eraseIdx n) (vs.eraseIdx n)
  | [], _, n, h => by rw [show _ = _ from h]; simp [RepL]
  | _ :: _, _, 0, ⟨y, r, h1, h2, h3⟩ => by rw [h1]; exact h3
  | _ :: _, _, n + 1, ⟨y, r, h1, h2, h3⟩ => by rw [h1]; exact ⟨y, r.eraseIdx n, rfl, h2, RepL.erase n h3⟩
theorem RepL.dropLast {xs : List MV} {vs : List V} (h : RepL w F xs vs) : RepL w F xs.dropLast vs.dropLast := by
  rw [List.dropLast_eq_take, List.dropLast_eq_take, h.length]
  exact h.take _
theorem RepL.reverse : ∀ {xs : List MV} {vs : List V}, RepL w F xs vs → RepL w F xs.reverse vs.reverse
  | [], _, h => by rw [show _ = _ from h]; simp [RepL]
  | _ :: _, _, ⟨y, r, h1, h2, h3⟩ => by
    rw [h1, List.reverse_cons, List.reverse_cons]
    exact (RepL.reverse h3).append ⟨y, [], rfl, h2, rfl⟩
theorem RepL.rep {xs : List MV} {vs : List V} (h : RepL w F xs vs) : ∀ n : Nat, RepL w F (List.replicate n xs).flatten (List.replicate n vs).flatten
  | 0 => rfl
  | n + 1 => by
    rw [List.replicate_succ, List.replicate_succ, List.flatten_cons, List.flatten_cons]
    exact h.append (RepL.rep h n)

/-- the abstract heap H holds what never changes, F, and what may change, G -/
structure Sim (w : Wd) (F : Hp) (G : MH) (H : Hp) : Prop where
  sub : ∀ a u, F a = some u → H a = some u
  mu : ∀ a g, G a = some g → F a = none ∧ ∃ o, H a = some o ∧ RepO w F g o
variable {G : MH} {H : Hp} {p : Addr}
theorem Sim.freeF (S : Sim w F G H) (h : H p = none) : F p = none := by
  cases e : F p with
  | none => rfl
  | some u =>
    have q := S.sub p u e
    rw [h] at q
    cases q
theorem Sim.freeG (S : Sim w F G H) (h : H p = none) : G p = none := by
  cases e : G p with
  | none => rfl
  | some g =>
    obtain ⟨_, o, q, _⟩ := S.mu p g e
    rw [h] at q
    cases q
theorem ext_upd {o : HO} (h : F p = none) : Ext F (upd F p o) := fun a u q => by
  rw [upd_ne (ne_of_none q h)]
  exact q
/-- a new thing that never changes -/
theorem Sim.newF {o : HO} (S : Sim w F G H) (h : H p = none) : Sim w (upd F p o) G (upd H p o) := by
  have hf := S.freeF h
  refine ⟨fun a u q => ?_, fun a g q => ?_⟩
  · by_cases e : a = p
    · subst e
      rw [upd_same] at q ⊢
      exact q
    · rw [upd_ne e] at q ⊢
      exact S.sub a u q
  · obtain ⟨h1, o', h2, h3⟩ := S.mu a g q
    have e : a ≠ p := fun z => by
      rw [z, S.freeG h] at q
      cases q
    exact ⟨by rw [upd_ne e]; exact h1, o', by rw [upd_ne e]; exact h2, h3.ext (ext_upd hf)⟩
/-- a thing that may change, new or changed -/
theorem Sim.put {g : MO} {o : HO} (S : Sim w F G H) (h : F p = none) (r : RepO w F g o) : Sim w F (mup G p g) (upd H p o) := by
  refine ⟨fun a u q => ?_, fun a g' q => ?_⟩
  · rw [upd_ne (ne_of_none q h)]
    exact S.sub a u q
  · by_cases e : a = p
    · subst e
      rw [mup_same] at q
      cases q
      exact ⟨h, o, upd_same, r⟩
    · rw [mup_ne e] at q
      obtain ⟨h1, o', h2, h3⟩ := S.mu a g' q
      exact ⟨h1, o', by rw [upd_ne e]; exact h2, h3⟩
theorem Sim.newG {g : MO} {o : HO} (S : Sim w F G H) (h : H p = none) (r : RepO w F g o) : Sim w F (mup G p g) (upd H p o) := S.put (S.freeF h) r
/-- something tracked is forgotten -/
theorem Sim.less {G' : MH} (S : Sim w F G H) (h : ∀ a g, G' a = some g → G a = some g) : Sim w F G' H := ⟨S.sub, fun a g q => S.mu a g (h a g q)⟩

/-- the slots -/
def RepS (w : Wd) (F : Hp) (σ' : MSt) (σ : L2.St) : Prop := σ'.length = σ.length ∧ ∀ (i : Nat) (x : MV), σ'[i]? = some (some x) → ∃ v, σ[i]? = some (some v) ∧ Rep w F x v
theorem RepS.ext {σ' : MSt} {σ : L2.St} (r : RepS w F σ' σ) (e : Ext F F') : RepS w F' σ' σ := ⟨r.1, fun i x h => let ⟨v, q1, q2⟩ := r.2 i x h; ⟨v, q1, q2.ext e⟩⟩
theorem RepS.set {σ' : MSt} {σ : L2.St} {x : MV} {v : V} (r : RepS w F σ' σ) (i : Nat) (h : Rep w F x v) : RepS w F (σ'.set i (some x)) (σ.set i (some v)) := by
  refine ⟨by rw [List.length_set, List.length_set]; exact r.1, fun j y q => ?_⟩
  by_cases e : i = j
  · subst e
    have hl : i < σ'.length := by
      rcases Nat.lt_or_ge i σ'.length with z | z
      · exact z
      · rw [List.getElem?_eq_none (by rw [List.length_set]; exact z)] at q
        cases q
    rw [List.getElem?_set_self hl] at q
    cases q
    exact ⟨v, List.getElem?_set_self (by rw [← r.1]; exact hl), h⟩
  · rw [List.getElem?_set_ne e] at q ⊢
    exact r.2 j y q
theorem RepS.unset {σ' : MSt} {σ : L2.St} (r : RepS w F σ' σ) (i : Nat) : RepS w F (σ'.set i none) (σ.set i none) := by
  refine ⟨by rw [List.length_set, List.length_set]; exact r.1, fun j y q => ?_⟩
  by_cases e : i = j
  · subst e
    rcases Nat.lt_or_ge i σ'.length with z | z
    · rw [List.getElem?_set_self z] at q
      cases q
    · rw [List.getElem?_eq_none (by rw [List.length_set]; exact z)] at q
      cases q
  · rw [List.getElem?_set_ne e] at q ⊢
    exact r.2 j y q
end

/-! ## what is wanted, and the lift to HandS -/
abbrev MQ := MV → MH → Prop
/-- an exception: its class, its fields -/
structure MX where
  C : Nat
  fs : List Nat
  vs : List MV
abbrev MW := MX → MSt → MH → Prop
abbrev ME0 := MSt → MH → MQ → MW → Prop
abbrev MT0 := MSt → MH → (Bool → MH → Prop) → MW → Prop
abbrev MA0 := MSt → MH → (List MV → MH → Prop) → MW → Prop
structure MD where
  nx : MSt → MH → Prop
  rt : MQ
  bk : MSt → MH → Prop
  ct : MSt → MH → Prop
  ex : MW
abbrev MS0 := MD → MSt → MH → Prop

/-- what may come behind: what never changes stays, what is nobody's stays nobody's -/
def Fut (F : Hp) (G : MH) (H : Hp) (F' : Hp) (G' : MH) (H' : Hp) : Prop := Ext F F' ∧ ∀ a o, H a = some o → F a = none → G a = none → H' a = some o ∧ F' a = none ∧ G' a = none
section
variable {F F' F'' : Hp} {G G' G'' : MH} {H H' H'' : Hp} {p : Addr}
theorem Fut.refl : Fut F G H F G H := ⟨.refl, fun _ _ h1 h2 h3 => ⟨h1, h2, h3⟩⟩
theorem Fut.trans (a : Fut F G H F' G' H') (b : Fut F' G' H' F'' G'' H'') : Fut F G H F'' G'' H'' := ⟨a.1.trans b.1, fun x o h1 h2 h3 => let ⟨q1, q2, q3⟩ := a.2 x o h1 h2 h3; b.2 x o q1 q2 q3⟩
theorem Fut.newF {o : HO} (h : F p = none) (hp : H p = none) : Fut F G H (upd F p o) G (upd H p o) := ⟨ext_upd h, fun a u h1 h2 h3 => by
  have e : a ≠ p := ne_of_none h1 hp
  rw [upd_ne e, upd_ne e]
  exact ⟨h1, h2, h3⟩⟩
theorem Fut.newG {o : HO} {g : MO} (hp : H p = none) : Fut F G H F (mup G p g) (upd H p o) := ⟨.refl, fun a u h1 h2 h3 => by
  have e : a ≠ p := ne_of_none h1 hp
  rw [upd_ne e, mup_ne e]
  exact ⟨h1, h2, h3⟩⟩
theorem Fut.put {o : HO} {g g' : MO} (hp : G p = some g') : Fut F G H F (mup G p g) (upd H p o) := ⟨.refl, fun a u h1 h2 h3 => by
  have e : a ≠ p := fun z => by
    rw [z, hp] at h3
    cases h3
  rw [upd_ne e, mup_ne e]
  exact ⟨h1, h2, h3⟩⟩
end
section
variable (w : Wd)
def RepX (F : Hp) (H : Hp) (ex : MX) (cls : Value) (d : Option Addr) : Prop :=
  cls = .ref (w.cad ex.C) ∧ ∃ (dx : Addr) (fvs : List (Str × V)), (d = some dx ∨ (d = none ∧ fvs = [])) ∧ (fvs ≠ [] → H dx = some (.xd fvs)) ∧ fvs.map (·.1) = ex.fs.map w.fnm ∧ RepL w F ex.vs (fvs.map (·.2))
def OkQ (F : Hp) (G : MH) (H : Hp) (Q' : MQ) (Q : VK) : Prop := ∀ F' G' H' x v, Fut F G H F' G' H' → Sim w F' G' H' → Rep w F' x v → Q' x G' → Q v H'
def OkT (F : Hp) (G : MH) (H : Hp) (Q' : Bool → MH → Prop) (Q : Bool → Hp → Prop) : Prop := ∀ F' G' H' b, Fut F G H F' G' H' → Sim w F' G' H' → Q' b G' → Q b H'
def OkA (n : Nat) (F : Hp) (G : MH) (H : Hp) (Q' : List MV → MH → Prop) (Q : List V → Hp → Prop) : Prop := ∀ F' G' H' xs vs, Fut F G H F' G' H' → Sim w F' G' H' → RepL w F' xs vs → xs.length = n → Q' xs G' → Q vs H'
def OkN (F : Hp) (G : MH) (H : Hp) (Q' : MSt → MH → Prop) (Q : L2.St → Hp → Prop) : Prop := ∀ F' G' H' σ' σ, Fut F G H F' G' H' → Sim w F' G' H' → RepS w F' σ' σ → Q' σ' G' → Q σ H'
def OkW (F : Hp) (G : MH) (H : Hp) (W' : MW) (W : WX) : Prop := ∀ F' G' H' σ' σ ex cls d, Fut F G H F' G' H' → Sim w F' G' H' → RepS w F' σ' σ → RepX w F' H' ex cls d → W' ex σ' G' → W cls d σ H'
structure OkD (F : Hp) (G : MH) (H : Hp) (D' : MD) (D : Ends) (W : WX) : Prop where
  nx : OkN w F G H D'.nx D.nx
  rt : OkQ w F G H D'.rt D.rt
  bk : OkN w F G H D'.bk D.bk
  ct : OkN w F G H D'.ct D.ct
  ex : OkW w F G H D'.ex W
def LE (W : WX) (m : ME0) : TE := fun σ H Q => ∃ F G σ' Q' W', Sim w F G H ∧ RepS w F σ' σ ∧ m σ' G Q' W' ∧ OkQ w F G H Q' Q ∧ OkW w F G H W' W
def LT (W : WX) (m : MT0) : TT := fun σ H Q => ∃ F G σ' Q' W', Sim w F G H ∧ RepS w F σ' σ ∧ m σ' G Q' W' ∧ OkT w F G H Q' Q ∧ OkW w F G H W' W
def LA (W : WX) (n : Nat) (m : MA0) : TA := fun σ H Q => ∃ F G σ' Q' W', Sim w F G H ∧ RepS w F σ' σ ∧ m σ' G Q' W' ∧ OkA w n F G H Q' Q ∧ OkW w F G H W' W
def LS (W : WX) (m : MS0) : TS := fun D σ H => ∃ F G σ' D', Sim w F G H ∧ RepS w F σ' σ ∧ m D' σ' G ∧ OkD w F G H D' D W
end
section
variable {w : Wd} {F F' : Hp} {G G' : MH} {H H' : Hp} {W : WX}
theorem OkQ.ext {Q' : MQ} {Q : VK} (h : OkQ w F G H Q' Q) (e : Fut F G H F' G' H') : OkQ w F' G' H' Q' Q := fun F1 G1 H1 x v e1 => h F1 G1 H1 x v (e.trans e1)
theorem OkT.ext {Q' : Bool → MH → Prop} {Q : Bool → Hp → Prop} (h : OkT w F G H Q' Q) (e : Fut F G H F' G' H') : OkT w F' G' H' Q' Q := fun F1 G1 H1 b e1 => h F1 G1 H1 b (e.trans e1)
theorem OkA.ext {n : Nat} {Q' : List MV → MH → Prop} {Q : List V → Hp → Prop} (h : OkA w n F G H Q' Q) (e : Fut F G H F' G' H') : OkA w n F' G' H' Q' Q := fun F1 G1 H1 x v e1 => h F1 G1 H1 x v (e.trans e1)
theorem OkN.ext {Q' : MSt → MH → Prop} {Q : L2.St → Hp → Prop} (h : OkN w F G H Q' Q) (e : Fut F G H F' G' H') : OkN w F' G' H' Q' Q := fun F1 G1 H1 x v e1 => h F1 G1 H1 x v (e.trans e1)
theorem OkW.ext {W' : MW} (h : OkW w F G H W' W) (e : Fut F G H F' G' H') : OkW w F' G' H' W' W := fun F1 G1 H1 x v ex c d e1 => h F1 G1 H1 x v ex c d (e.trans e1)
theorem OkD.ext {D' : MD} {D : Ends} (h : OkD w F G H D' D W) (e : Fut F G H F' G' H') : OkD w F' G' H' D' D W := ⟨h.nx.ext e, h.rt.ext e, h.bk.ext e, h.ct.ext e, h.ex.ext e⟩
end
theorem PE.imp {X : Cx} {e : Expr} {t t' : TE} (h : PE X e t) (i : ∀ σ H Q, t' σ H Q → t σ H Q) : PE X e t' := ⟨fun p s σ H Q I q => h.run p s σ H Q I (i σ H Q q)⟩
theorem PT.imp {X : Cx} {e : Expr} {t t' : TT} (h : PT X e t) (i : ∀ σ H Q, t' σ H Q → t σ H Q) : PT X e t' := ⟨fun p s σ H Q I q => h.run p s σ H Q I (i σ H Q q)⟩
theorem PA.imp {X : Cx} {e : List Expr} {t t' : TA} (h : PA X e t) (i : ∀ σ H Q, t' σ H Q → t σ H Q) : PA X e t' := ⟨fun ps p s σ H Q I q => h.run ps p s σ H Q I (i σ H Q q)⟩
theorem PS.imp {X : Cx} {e : Stmt} {t t' : TS} (h : PS X e t) (i : ∀ D σ H, t' D σ H → t D σ H) : PS X e t' := ⟨fun p s σ H D I q => h.run p s σ H D I (i D σ H q)⟩
theorem PSs.imp {X : Cx} {e : List Stmt} {t t' : TS} (h : PSs X e t) (i : ∀ D σ H, t' D σ H → t D σ H) : PSs X e t' := ⟨fun p s σ H D I q => h.run p s σ H D I (i D σ H q)⟩
end MP

set_option Elab.async false
set_option linter.all false
set_option maxRecDepth 100000
namespace MP
open PySem PySem.Spec PyProof.Rows L2

/-! # a small language, and what each of its parts wants -/
inductive Prim where
  | len | isinst | abs | max2 | min2 | int | str | all | any | list | tuple
  deriving DecidableEq
inductive Mth where
  | append | join | split | strip1 | sindex | pop | popAt
  deriving DecidableEq
inductive MG where
  | nm (i : Nat) | tup (is : List Nat)
inductive Src where
  | val | range
  deriving DecidableEq
/-- where a parameter's value comes from: a place, a keyword, a default -/
inductive PSrc where
  | p (i : Nat) | k (j : Nat) | d (v : MV)
inductive ME where
  | var (i : Nat) | cst (v : MV) | glob (x : Str) (v : MV) | ty (t : BT)
  | bin (op : Operator) (a b : ME) | neg (a : ME)
  | cmp (op : CmpOp) (a b : ME) | chain (o1 o2 : CmpOp) (a b c : ME)
  | and (a b : ME) | or (a b : ME) | not (a : ME) | ite (c a b : ME)
  | prim (p : Prim) (args : List ME) | meth (m : Mth) (o : ME) (args : List ME)
  | idx (a i : ME) | slice (a lo hi : ME) | nop
  | tup (xs : List ME) | lst (xs : List ME) | dct (ks : List MK) (vs : List ME)
  | call (f : Nat) (args : List ME) (dms : List MV) | callK (f : Nat) (args : List ME) (kvs : List ME) (src : List PSrc)
  | lc (g : MG) (s : Src) (it : List ME) (cs : List ME) (e : ME) (own : List Nat)
inductive MS where
  | asg (g : MG) (e : ME) | par (i j : Nat) (a b : ME) | setI (o i e : ME)
  | expr (e : ME) | ret (e : ME) | ite (c : ME) (a b : List MS)
  | for (g : MG) (s : Src) (it : List ME) (body : List MS) | while (c : ME) (body : List MS)
  | pass | cont | brk

def Br (b : Bool) (P Q : Prop) : Prop := match b with
  | true => P
  | false => Q
theorem Br.mk {b : Bool} {P Q : Prop} (h : b = true → P) (h' : b = false → Q) : Br b P Q := by
  cases b
  · exact h' rfl
  · exact h rfl
theorem Br.t {b : Bool} {P Q : Prop} (e : b = true) (h : P) : Br b P Q := by
  subst e
  exact h
theorem Br.f {b : Bool} {P Q : Prop} (e : b = false) (h : Q) : Br b P Q := by
  subst e
  exact h
def nth {α : Type} : List α → Nat → Option α
  | [], _ => none
  | x :: _, 0 => some x
  | _ :: r, n + 1 => nth r n
theorem nth_eq {α : Type} : ∀ (l : List α) (i : Nat), nth l i = l[i]?
  | [], _ => rfl
  | _ :: _, 0 => rfl
  | _ :: r, i + 1 => by
    rw [List.getElem?_cons_succ]
    exact nth_eq r i
def stv {α : Type} : List α → Nat → α → List α
  | [], _, _ => []
  | _ :: r, 0, v => v :: r
  | x :: r, n + 1, v => x :: stv r n v
theorem stv_eq {α : Type} : ∀ (l : List α) (i : Nat) (v : α), stv l i v = l.set i v
  | [], _, _ => rfl
  | _ :: _, 0, _ => rfl
  | x :: r, i + 1, v => by
    show x :: stv r i v = x :: r.set i v
    rw [stv_eq r i v]
/-- one level of what may change, read -/
def rdd (G : MH) (v : MV) (k : MV → Prop) : Prop := match v with
  | .ref p => ∃ xs, G p = some (.lst xs) ∧ k (.lst xs)
  | v => k v
/-- a new list: one that never changes, or one that may -/
def newL (xs : List MV) (G : MH) (Q : MQ) : Prop := Q (.lst xs) G ∨ ∀ p, G p = none → Q (.ref p) (mup G p (.lst xs))

/-! ## plain data -/
mutual
def eqM : MV → MV → Bool
  | .non, .non => true
  | .bl a, .bl b => decide (a = b)
  | .bl a, .int i => decide ((if a then (1 : Int) else 0) = i)
  | .int i, .bl a => decide (i = if a then 1 else 0)
  | .int i, .int j => decide (i = j)
  | .str x, .str y => decide (x = y)
  | .tup xs, .tup ys => eqL xs ys
  | .lst xs, .lst ys => eqL xs ys
  | _, _ => false
def eqL : List MV → List MV → Bool
  | [], [] => true
  | x :: xs, y :: ys => eqM x y && eqL xs ys
  | _, _ => false
end
mutual
/-- plain data of nesting at most n -/
def plain : Nat → MV → Bool
  | _, .non => true
  | _, .bl _ => true
  | _, .int _ => true
  | _, .str _ => true
  | 0, .tup _ => false
  | n + 1, .tup xs => plainL n xs
  | 0, .lst _ => false
  | n + 1, .lst xs => plainL n xs
  | _, _ => false
def plainL : Nat → List MV → Bool
  | _, [] => true
  | n, x :: xs => plain n x && plainL n xs
end
def tyM : MV → Option BT
  | .non => some .none
  | .bl _ => some .bool
  | .int _ => some .int
  | .str _ => some .str
  | .tup _ => some .tuple
  | .lst _ => some .list
  | .klst _ => some .list
  | .dct _ _ => some .dict
  | _ => none
def tyO : MO → Option BT
  | .lst _ => some .list
  | .dct _ _ => some .dict
  | _ => none
def subT (a b : BT) : Bool := match a, b with
  | .none, .none => true
  | .bool, .bool => true
  | .bool, .int => true
  | .int, .int => true
  | .str, .str => true
  | .list, .list => true
  | .tuple, .tuple => true
  | .dict, .dict => true
  | _, _ => false
def tysOf : MV → Option (List BT)
  | .ty t => some [t]
  | .tup [.ty a, .ty b] => some [a, b]
  | _ => none
def anyT (t : BT) : List BT → Bool
  | [] => false
  | u :: r => subT t u || anyT t r
def isiM (v c : MV) (G : MH) (Q : MQ) : Prop := match tysOf c with
  | none => False
  | some ts => match v with
    | .ref p => ∃ o t, G p = some o ∧ tyO o = some t ∧ Q (.bl (anyT t ts)) G
    | v => match tyM v with
      | some t => Q (.bl (anyT t ts)) G
      | none => False
def blsOf : List MV → Option (List Bool)
  | [] => some []
  | .bl b :: r => (blsOf r).map (b :: ·)
  | _ => none
/-- the text of a whole number, by its signs -/
def numT (i : Int) : Tx := (Str.ofString (toString i)).cps.toList
def primM : Prim → List MV → MH → MQ → Prop
  | .len, [v], G, Q => rdd G v fun v => match v with
    | .str x => Q (.int x.length) G
    | .lst xs => Q (.int xs.length) G
    | .tup xs => Q (.int xs.length) G
    | .klst xs => Q (.int xs.length) G
    | _ => False
  | .isinst, [v, c], G, Q => isiM v c G Q
  | .abs, [.int i], G, Q => Q (.int (if i < 0 then -i else i)) G
  | .max2, [.int i, .int j], G, Q => Q (.int (if j > i then j else i)) G
  | .min2, [.int i, .int j], G, Q => Q (.int (if j < i then j else i)) G
  | .int, [.int i], G, Q => Q (.int i) G
  | .int, [.bl b], G, Q => Q (.int (if b then 1 else 0)) G
  | .int, [.str x], G, Q => ∃ n, intText? ⟨x.toArray⟩ = some n ∧ x.length ≤ 640 ∧ Q (.int n) G
  | .str, [.int i], G, Q => i.natAbs.log2 < 1920 ∧ Q (.str (numT i)) G
  | .all, [v], G, Q => rdd G v fun v => match v with
    | .lst xs => ∃ bs, blsOf xs = some bs ∧ Q (.bl (bs.all id)) G
    | _ => False
  | .any, [v], G, Q => rdd G v fun v => match v with
    | .lst xs => ∃ bs, blsOf xs = some bs ∧ Q (.bl (bs.any id)) G
    | _ => False
  | .list, [v], G, Q => rdd G v fun v => match v with
    | .lst xs => newL xs G Q
    | .tup xs => newL xs G Q
    | .klst xs => newL xs G Q
    | _ => False
  | .tuple, [v], G, Q => rdd G v fun v => match v with
    | .lst xs => Q (.tup xs) G
    | .tup xs => Q (.tup xs) G
    | .klst xs => Q (.tup xs) G
    | _ => False
  | _, _, _, _ => False
def binM : Operator → MV → MV → MH → MQ → Prop
  | .Add, .int i, .int j, G, Q => Q (.int (i + j)) G
  | .Sub, .int i, .int j, G, Q => Q (.int (i - j)) G
  | .Mult, .int i, .int j, G, Q => CMulW i j ∧ Q (.int (i * j)) G
  | .FloorDiv, .int i, .int j, G, Q => CDivW i j ∧ Q (.int (i / j)) G
  | .Mod, .int i, .int j, G, Q => 0 < j ∧ Q (.int (i % j)) G
  | .Pow, .int i, .int j, G, Q => CPow i j ∧ Q (.int (i ^ j.toNat)) G
  | .Add, .str x, .str y, G, Q => x.length + y.length ≤ sizeLine ∧ Q (.str (x ++ y)) G
  | .Mult, .str x, .int k, G, Q => 0 ≤ k ∧ k < 2 ^ 30 ∧ x.length * k.toNat ≤ sizeLine ∧ Q (.str (List.replicate k.toNat x).flatten) G
  | .Add, .lst xs, y, G, Q => rdd G y fun y => match y with
    | .lst ys => xs.length + ys.length ≤ sizeLine ∧ newL (xs ++ ys) G Q
    | _ => False
  | .Add, .ref p, y, G, Q => ∃ xs, G p = some (.lst xs) ∧ rdd G y fun y => match y with
    | .lst ys => xs.length + ys.length ≤ sizeLine ∧ newL (xs ++ ys) G Q
    | _ => False
  | .Mult, .lst xs, .int k, G, Q => 0 ≤ k ∧ k < 2 ^ 62 ∧ xs.length * k.toNat ≤ sizeLine ∧ newL (List.replicate k.toNat xs).flatten G Q
  | _, _, _, _, _ => False
def hasM (x y : MV) (G : MH) (k : Bool → Prop) : Prop := rdd G y fun y => match y with
  | .str z => match x with
    | .str [c] => k (decide (c ∈ z))
    | _ => False
  | .lst ys => plain 60 x = true ∧ plainL 60 ys = true ∧ k (ys.any fun z => eqM z x)
  | _ => False
def isNon : MV → Bool
  | .non => true
  | _ => false
def cmpM : CmpOp → MV → MV → MH → MQ → Prop
  | .Lt, .int i, .int j, G, Q => Q (.bl (decide (i < j))) G
  | .LtE, .int i, .int j, G, Q => Q (.bl (decide (i ≤ j))) G
  | .Gt, .int i, .int j, G, Q => Q (.bl (decide (j < i))) G
  | .GtE, .int i, .int j, G, Q => Q (.bl (decide (j ≤ i))) G
  | .Eq, x, y, G, Q => rdd G x fun x => rdd G y fun y => plain 60 x = true ∧ plain 60 y = true ∧ Q (.bl (eqM x y)) G
  | .NotEq, x, y, G, Q => rdd G x fun x => rdd G y fun y => plain 60 x = true ∧ plain 60 y = true ∧ Q (.bl (!eqM x y)) G
  | .In, x, y, G, Q => hasM x y G fun b => Q (.bl b) G
  | .NotIn, x, y, G, Q => hasM x y G fun b => Q (.bl (!b)) G
  | .Is, x, .non, G, Q => Q (.bl (isNon x)) G
  | .IsNot, x, .non, G, Q => Q (.bl (!isNon x)) G
  | _, _, _, _, _ => False
/-- truth -/
def truM (v : MV) (G : MH) (k : Bool → Prop) : Prop := match v with
  | .bl b => k b
  | .non => k false
  | .int i => k (i != 0)
  | .str x => k (!x.isEmpty)
  | .lst xs => k (!xs.isEmpty)
  | .tup xs => k (!xs.isEmpty)
  | .ref p => ∃ xs, G p = some (.lst xs) ∧ k (!xs.isEmpty)
  | _ => False
def atM (xs : List MV) (i : Int) (k : MV → Prop) : Prop := ∃ v, atI xs i = some v ∧ k v
def idxM (a i : MV) (G : MH) (Q : MQ) : Prop := match i with
  | .int i => rdd G a fun a => match a with
    | .lst xs => atM xs i fun v => Q v G
    | .tup xs => atM xs i fun v => Q v G
    | .klst xs => atM xs i fun v => Q v G
    | .str x => ∃ c, atI x i = some c ∧ Q (.str [c]) G
    | _ => False
  | _ => False
def cut {α : Type} (xs : List α) (lo hi : Option Int) : List α := (xs.drop (HT.sIx xs.length 0 lo)).take (HT.sIx xs.length xs.length hi - HT.sIx xs.length 0 lo)
def slcM (a : MV) (lo hi : Option Int) (G : MH) (Q : MQ) : Prop := rdd G a fun a => match a with
  | .lst xs => newL (cut xs lo hi) G Q
  | .klst xs => newL (cut xs lo hi) G Q
  | .str x => Q (.str (cut x lo hi)) G
  | _ => False
def strsOf : List MV → Option (List Tx)
  | [] => some []
  | .str x :: r => (strsOf r).map (x :: ·)
  | _ => none
/-- parts with a sign between them -/
def joinT (sep : Tx) : List Tx → Tx
  | [] => []
  | [x] => x
  | x :: y :: r => x ++ (sep ++ joinT sep (y :: r))
/-- cut at a sign -/
def splitT (c : Nat) : Tx → Tx → List Tx
  | acc, [] => [acc]
  | acc, x :: r => if x = c then acc :: splitT c [] r else splitT c (acc ++ [x]) r
def methM : Mth → MV → List MV → MH → MQ → Prop
  | .append, .ref p, [v], G, Q => ∃ xs, G p = some (.lst xs) ∧ xs.length < sizeLine ∧ Q .non (mup G p (.lst (xs ++ [v])))
  | .pop, .ref p, [], G, Q => ∃ xs v, G p = some (.lst xs) ∧ xs[xs.length - 1]? = some v ∧ Q v (mup G p (.lst xs.dropLast))
  | .popAt, .ref p, [.int i], G, Q => ∃ xs v, G p = some (.lst xs) ∧ 0 ≤ i ∧ xs[i.toNat]? = some v ∧ Q v (mup G p (.lst (xs.eraseIdx i.toNat)))
  | .join, .str s, [v], G, Q => rdd G v fun v => match v with
    | .lst xs => ∃ ts, strsOf xs = some ts ∧ (joinT s ts).length + s.length ≤ sizeLine ∧ Q (.str (joinT s ts)) G
    | _ => False
  | .split, .str x, [.str [c]], G, Q => c < 256 ∧ x.length + 2 ≤ sizeLine ∧ newL ((splitT c [] x).map .str) G Q
  | .strip1, .str x, [.str [c]], G, Q => Q (.str (Txt.stripChars ⟨x.toArray⟩ ⟨#[c]⟩).cps.toList) G
  | .sindex, .str x, [.str [c]], G, Q => ∃ n : Nat, x[n]? = some c ∧ x.Nodup ∧ Q (.int n) G
  | _, _, _, _, _ => False
def asgM : MG → MV → MSt → MH → (MSt → MH → Prop) → Prop
  | .nm i, v, σ, G, k => k (stv σ i (some v)) G
  | .tup is, v, σ, G, k => match v with
    | .tup vs => vs.length = is.length ∧ k ((is.zip vs).foldl (fun s p => stv s p.1 (some p.2)) σ) G
    | _ => False
/-- what a loop walks, and what it asks of the heap meanwhile -/
def srcM : Src → List MV → MH → (List MV → (MH → Prop) → Prop) → Prop
  | .val, [v], G, k => match v with
    | .lst xs => k xs fun _ => True
    | .tup xs => k xs fun _ => True
    | .klst xs => k xs fun _ => True
    | .str x => k (x.map fun c => .str [c]) fun _ => True
    | .ref p => ∃ xs, G p = some (.lst xs) ∧ k xs fun G => G p = some (.lst xs)
    | _ => False
  | .range, [.int n], _, k => -(2 ^ 62) ≤ n ∧ n ≤ 16777216 ∧ k ((List.range n.toNat).map fun (i : Nat) => .int i) fun _ => True
  | .range, [.int a, .int b], _, k => (-(2 ^ 62) ≤ a ∧ a < 2 ^ 62 ∧ -(2 ^ 62) ≤ b ∧ b < 2 ^ 62 ∧ b - a ≤ 16777216) ∧ k ((List.range (b - a).toNat).map fun (i : Nat) => .int (a + i)) fun _ => True
  | _, _, _, _ => False
def Mth.isStr : Mth → Bool
  | .append => false | .pop => false | .popAt => false | _ => true
/-- the receiver is of the method's type -/
def rcv (m : Mth) (x : MV) (G : MH) (k : Prop) : Prop := match m.isStr, x with
  | true, .str _ => k
  | false, .ref p => (∃ xs, G p = some (.lst xs)) ∧ k
  | _, _ => False
abbrev Sem0 := Nat → List MV → MH → MQ → (MX → MH → Prop) → Prop
/-- the arguments in the parameters' order -/
def asm : List PSrc → List MV → List MV → List MV
  | [], _, _ => []
  | .p i :: r, vs, us => (match nth vs i with
    | some v => v
    | none => .non) :: asm r vs us
  | .k j :: r, vs, us => (match nth us j with
    | some v => v
    | none => .non) :: asm r vs us
  | .d v :: r, vs, us => v :: asm r vs us
/-- the slots of a comprehension's own names forgotten -/
def wipeM (σ : MSt) : List Nat → MSt
  | [] => σ
  | v :: vs => stv (wipeM σ vs) v none
/-- a comprehension's turns -/
def lcM (g : MG) (t : MSt → MH → (Bool → MH → Prop) → Prop) (e : MSt → MH → MQ → Prop) (σ : MSt) (inv : MH → Prop) : List MV → List MV → MH → (List MV → MH → Prop) → Prop
  | [], acc, G, k => inv G ∧ k acc G
  | x :: xs, acc, G, k => inv G ∧ asgM g x σ G fun σ1 G1 => t σ1 G1 fun b G2 => Br b (e σ1 G2 fun v G3 => lcM g t e σ inv xs (acc ++ [v]) G3 k) (lcM g t e σ inv xs acc G2 k)
/-- a value's truth as a test -/
def tt0 (m : ME0) : MT0 := fun σ G Q W => m σ G (fun x G1 => truM x G1 fun t => Q t G1) W
/-- a part of a slice -/
def isNop : ME → Bool
  | .nop => true
  | _ => false
def opt0 (b : Bool) (m : ME0) (σ : MSt) (G : MH) (k : Option Int → MH → Prop) (W : MW) : Prop := match b with
  | true => k none G
  | false => m σ G (fun x G1 => match x with
    | .int i => k (some i) G1
    | _ => False) W
structure EP2 where
  e : ME0
  t : MT0
def mk2 (m : ME0) : EP2 := ⟨m, tt0 m⟩
mutual
/-- what an expression wants: as a value, as a test -/
def ev (C : Sem0) : ME → EP2
  | .var i => mk2 fun σ G Q _ => match nth σ i with
    | some (some v) => Q v G
    | _ => False
  | .cst v => mk2 fun _ G Q _ => Q v G
  | .glob _ v => mk2 fun _ G Q _ => Q v G
  | .ty t => mk2 fun _ G Q _ => Q (.ty t) G
  | .nop => mk2 fun _ _ _ _ => False
  | .bin op a b => mk2 fun σ G Q W => (ev C a).e σ G (fun x G1 => (ev C b).e σ G1 (fun y G2 => binM op x y G2 Q) W) W
  | .neg a => mk2 fun σ G Q W => (ev C a).e σ G (fun x G1 => match x with
    | .int i => Q (.int (-i)) G1
    | _ => False) W
  | .cmp op a b => mk2 fun σ G Q W => (ev C a).e σ G (fun x G1 => (ev C b).e σ G1 (fun y G2 => cmpM op x y G2 Q) W) W
  | .chain o1 o2 a b c => mk2 fun σ G Q W => (ev C a).e σ G (fun x G1 => (ev C b).e σ G1 (fun y G2 => cmpM o1 x y G2 fun r G3 => match r with
    | .bl t => Br t ((ev C c).e σ G3 (fun z G4 => cmpM o2 y z G4 Q) W) (Q (.bl false) G3)
    | _ => False) W) W
  | .and a b => ⟨fun σ G Q W => (ev C a).e σ G (fun x G1 => match x with
    | .bl t => Br t ((ev C b).e σ G1 Q W) (Q (.bl false) G1)
    | _ => False) W, fun σ G Q W => (ev C a).t σ G (fun t G1 => Br t ((ev C b).t σ G1 Q W) (Q false G1)) W⟩
  | .or a b => ⟨fun σ G Q W => (ev C a).e σ G (fun x G1 => match x with
    | .bl t => Br t (Q (.bl true) G1) ((ev C b).e σ G1 Q W)
    | _ => False) W, fun σ G Q W => (ev C a).t σ G (fun t G1 => Br t (Q true G1) ((ev C b).t σ G1 Q W)) W⟩
  | .not a => ⟨fun σ G Q W => (ev C a).e σ G (fun x G1 => match x with
    | .bl t => Q (.bl (!t)) G1
    | _ => False) W, fun σ G Q W => (ev C a).t σ G (fun t G1 => Q (!t) G1) W⟩
  | .ite c a b => ⟨fun σ G Q W => (ev C c).t σ G (fun t G1 => Br t ((ev C a).e σ G1 Q W) ((ev C b).e σ G1 Q W)) W, fun σ G Q W => (ev C c).t σ G (fun t G1 => Br t ((ev C a).t σ G1 Q W) ((ev C b).t σ G1 Q W)) W⟩
  | .prim p as => mk2 fun σ G Q W => evA C as σ G (fun vs G1 => primM p vs G1 Q) W
  | .meth m o as => mk2 fun σ G Q W => (ev C o).e σ G (fun x G1 => rcv m x G1 (evA C as σ G1 (fun vs G2 => methM m x vs G2 Q) W)) W
  | .idx a i => mk2 fun σ G Q W => (ev C a).e σ G (fun x G1 => (ev C i).e σ G1 (fun y G2 => idxM x y G2 Q) W) W
  | .slice a lo hi => mk2 fun σ G Q W => (ev C a).e σ G (fun x G1 => opt0 (isNop lo) (ev C lo).e σ G1 (fun l G2 => opt0 (isNop hi) (ev C hi).e σ G2 (fun h G3 => slcM x l h G3 Q) W) W) W
  | .tup as => mk2 fun σ G Q W => evA C as σ G (fun vs G1 => Q (.tup vs) G1) W
  | .lst as => mk2 fun σ G Q W => evA C as σ G (fun vs G1 => newL vs G1 Q) W
  | .dct ks as => mk2 fun σ G Q W => evA C as σ G (fun vs G1 => Q (.dct ks vs) G1) W
  | .call f as dms => mk2 fun σ G Q W => evA C as σ G (fun vs G1 => C f (vs ++ dms) G1 Q fun ex G2 => W ex σ G2) W
  | .callK f as kvs src => mk2 fun σ G Q W => evA C as σ G (fun vs G1 => evA C kvs σ G1 (fun us G2 => C f (asm src vs us) G2 Q fun ex G2 => W ex σ G2) W) W
  | .lc g s it cs e own => mk2 fun σ G Q W => evA C it σ G (fun vs G1 => srcM s vs G1 fun xs inv =>
      lcM g (fun σ1 G2 k => evC C cs σ1 G2 k) (fun σ1 G2 k => (ev C e).e σ1 G2 k fun _ _ _ => False) (wipeM σ own) inv xs [] G1 fun ys G3 => newL ys G3 Q) W
/-- the tests of a comprehension -/
def evC (C : Sem0) : List ME → MSt → MH → (Bool → MH → Prop) → Prop
  | [], _, G, k => k true G
  | c :: _, σ, G, k => (ev C c).t σ G k fun _ _ _ => False
def evA (C : Sem0) : List ME → MA0
  | [], _, G, Q, _ => Q [] G
  | e :: es, σ, G, Q, W => (ev C e).e σ G (fun v G1 => evA C es σ G1 (fun vs G2 => Q (v :: vs) G2) W) W
end
abbrev evE (C : Sem0) (e : ME) : ME0 := (ev C e).e
abbrev evT (C : Sem0) (e : ME) : MT0 := (ev C e).t
/-- a loop's turns -/
def forM (g : MG) (b : MS0) (inv : MH → Prop) (D : MD) : List MV → MSt → MH → Prop
  | [], σ, G => inv G ∧ D.nx σ G
  | x :: xs, σ, G => inv G ∧ asgM g x σ G fun σ1 G1 => b { D with nx := forM g b inv D xs, ct := forM g b inv D xs, bk := D.nx } σ1 G1
def whileM (c : MT0) (b : MS0) (D : MD) : Nat → MSt → MH → Prop
  | 0, _, _ => False
  | n + 1, σ, G => c σ G (fun t G1 => Br t (b { D with nx := whileM c b D n, ct := whileM c b D n, bk := D.nx } σ G1) (D.nx σ G1)) D.ex
mutual
def evS (C : Sem0) : MS → MS0
  | .asg g e, D, σ, G => evE C e σ G (fun v G1 => asgM g v σ G1 D.nx) D.ex
  | .par i j a b, D, σ, G => evE C a σ G (fun x G1 => evE C b σ G1 (fun y G2 => D.nx (stv (stv σ i (some x)) j (some y)) G2) D.ex) D.ex
  | .setI o i e, D, σ, G => evE C e σ G (fun v G1 => evE C o σ G1 (fun x G2 => evE C i σ G2 (fun y G3 => match x, y with
    | .ref p, .int k => ∃ xs j, G3 p = some (.lst xs) ∧ ixN xs.length k = some j ∧ D.nx σ (mup G3 p (.lst (stv xs j v)))
    | _, _ => False) D.ex) D.ex) D.ex
  | .expr e, D, σ, G => evE C e σ G (fun _ G1 => D.nx σ G1) D.ex
  | .ret e, D, σ, G => evE C e σ G D.rt D.ex
  | .ite c a b, D, σ, G => evT C c σ G (fun t G1 => Br t (evB C a D σ G1) (evB C b D σ G1)) D.ex
  | .for g s it b, D, σ, G => evA C it σ G (fun vs G1 => srcM s vs G1 fun xs inv => forM g (evB C b) inv D xs σ G1) D.ex
  | .while c b, D, σ, G => ∃ n, whileM (evT C c) (evB C b) D n σ G
  | .pass, D, σ, G => D.nx σ G
  | .cont, D, σ, G => D.ct σ G
  | .brk, D, σ, G => D.bk σ G
def evB (C : Sem0) : List MS → MS0
  | [], D, σ, G => D.nx σ G
  | s :: r, D, σ, G => evS C s { D with nx := evB C r D } σ G
end
/-- a def: its arguments in its first slots; what it leaves behind may be forgotten -/
structure MF where
  N : Nat
  ps : Nat
  body : List MS
/-- something may be forgotten -/
def less (G : MH) (P : MH → Prop) : Prop := ∃ G' : MH, (∀ a o, G' a = some o → G a = some o) ∧ P G'
def endF (Q : MQ) (E : MX → MH → Prop) : MD where
  nx := fun _ G => less G fun G' => Q .non G'
  rt := fun v G => less G fun G' => Q v G'
  bk := fun _ _ => False
  ct := fun _ _ => False
  ex := fun x _ G => less G fun G' => E x G'
def startM (n : Nat) (vs : List MV) : MSt := vs.map some ++ List.replicate (n - vs.length) none
def evF (C : Sem0) (f : MF) (vs : List MV) (G : MH) (Q : MQ) (E : MX → MH → Prop) : Prop := evB C f.body (endF Q E) (startM f.N vs) G
end MP

set_option Elab.async false
set_option linter.all false
set_option maxRecDepth 100000
set_option maxHeartbeats 1000000
namespace MP
open PySem PySem.Spec PyProof.Rows L2
section
variable {w : Wd} {F F' : Hp} {G : MH} {H : Hp}
/-- a list, whichever way it stands -/
def IsL (G : MH) (v : MV) (xs : List MV) : Prop := v = .lst xs ∨ ∃ p, v = .ref p ∧ G p = some (.lst xs)
theorem rdd_of {v : MV} {k : MV → Prop} (h : rdd G v k) : (∃ xs, IsL G v xs ∧ k (.lst xs)) ∨ ((∀ xs, ¬ IsL G v xs) ∧ (∀ p, v ≠ .ref p) ∧ k v) := by
  cases v with
  | ref p =>
    obtain ⟨xs, h1, h2⟩ := h
    exact .inl ⟨xs, .inr ⟨p, rfl, h1⟩, h2⟩
  | lst xs => exact .inl ⟨xs, .inl rfl, h⟩
  | _ => exact .inr ⟨fun xs q => (by rcases q with q | ⟨p, q, _⟩ <;> cases q), (by intro p q; cases q), h⟩
theorem Sim.lst (S : Sim w F G H) {v' : MV} {v : V} {xs : List MV} (r : Rep w F v' v) (h : IsL G v' xs) : ∃ a ys, v = .ref a ∧ H a = some (.lst ys) ∧ RepL w F xs ys := by
  rcases h with rfl | ⟨p, rfl, hp⟩
  · obtain ⟨a, ys, h1, h2, h3⟩ := r
    exact ⟨a, ys, h1, S.sub _ _ h2, h3⟩
  · obtain ⟨_, o, h2, ys, h3, h4⟩ := S.mu p _ hp
    have e : v = .ref p := r
    subst h3
    exact ⟨p, ys, e, h2, h4⟩
theorem Sim.klst (S : Sim w F G H) {v : V} {xs : List MV} (r : Rep w F (.klst xs) v) : ∃ a ys, v = .ref a ∧ SqL w.K H a ys ∧ RepL w F xs ys := by
  obtain ⟨a, ys, h1, h2, h3⟩ := r
  refine ⟨a, ys, h1, ?_, h3⟩
  rcases h2 with ⟨o, h2⟩ | h2
  · exact .inl (.inr ⟨o, S.sub _ _ h2⟩)
  · exact .inr h2
theorem Sim.tup (S : Sim w F G H) {v : V} {xs : List MV} (r : Rep w F (.tup xs) v) : ∃ a ys, v = .ref a ∧ SqT w.K H a ys ∧ RepL w F xs ys := by
  obtain ⟨a, ys, h1, h2, h3⟩ := r
  refine ⟨a, ys, h1, ?_, h3⟩
  rcases h2 with h2 | h2
  · exact .inl (.inl (S.sub _ _ h2))
  · exact .inr h2
theorem newL_ok {xs : List MV} {ys : List V} {Q' : MQ} {Q : VK} (S : Sim w F G H) (r : RepL w F xs ys) (h : newL xs G Q') (k : OkQ w F G H Q' Q) : ∀ p, H p = none → Q (.ref p) (upd H p (.lst ys)) := by
  intro p hp
  rcases h with h | h
  · have e : Ext F (upd F p (.lst ys)) := ext_upd (S.freeF hp)
    exact k _ G _ (.lst xs) _ (.newF (S.freeF hp) hp) (S.newF hp) ⟨p, ys, rfl, upd_same, r.ext e⟩ h
  · exact k F _ _ (.ref p) _ (.newG hp) (S.newG (g := .lst xs) hp ⟨ys, rfl, r⟩) rfl (h p (S.freeG hp))
theorem str_app {x y : Tx} : (⟨x.toArray⟩ : Str) ++ ⟨y.toArray⟩ = ⟨(x ++ y).toArray⟩ := by
  show (⟨_⟩ : Str) = _
  congr 1
  simp
theorem str_len {x : Tx} : (⟨x.toArray⟩ : Str).length = x.length := by simp [Str.length]
theorem TxOk.app {x y : Tx} (a : TxOk x) (b : TxOk y) (h : x.length + y.length ≤ sizeLine) : TxOk (x ++ y) := by
  refine ⟨by rw [List.length_append]; exact h, fun c hc => ?_⟩
  rcases List.mem_append.mp hc with z | z
  · exact a.2 c z
  · exact b.2 c z
theorem sz_pos : 1 ≤ sizeLine := by rw [sizeLine_eq]; decide
theorem TxOk.one {c : Nat} (h : c < 1114112) : TxOk [c] := ⟨sz_pos, fun d hd => by
  have e : d = c := by simpa using hd
  rw [e]
  exact h⟩
theorem TxOk.sub {x y : Tx} (a : TxOk x) (hl : y.length ≤ x.length) (h : ∀ c ∈ y, c ∈ x) : TxOk y := ⟨Nat.le_trans hl a.1, fun c hc => a.2 c (h c hc)⟩
theorem TxOk.rep {x : Tx} (a : TxOk x) (n : Nat) (h : x.length * n ≤ sizeLine) : TxOk (List.replicate n x).flatten := by
  refine ⟨?_, fun c hc => ?_⟩
  · rw [List.length_flatten, List.map_replicate, List.sum_replicate_nat, Nat.mul_comm]
    exact h
  · obtain ⟨l, hl, hc⟩ := List.mem_flatten.mp hc
    have e := (List.mem_replicate.mp hl).2
    rw [e] at hc
    exact a.2 c hc
theorem foldl_app (l : List Nat) : ∀ (n : Nat) (acc : Array Nat), (List.replicate n l.toArray).foldl (· ++ ·) acc = acc ++ (List.replicate n l).flatten.toArray
  | 0, acc => by simp
  | n + 1, acc => by
    rw [List.replicate_succ, List.foldl_cons, foldl_app l n, List.replicate_succ, List.flatten_cons, Array.append_assoc]
    congr 1
    simp
theorem mul_eq (x : Tx) (n : Int) : Txt.mul ⟨x.toArray⟩ n = ⟨((List.replicate n.toNat x).flatten).toArray⟩ := by
  unfold Txt.mul
  by_cases h1 : n < 1
  · rw [if_pos h1, show n.toNat = 0 by omega]
    rfl
  · rw [if_neg h1]
    by_cases h2 : (n == 1 || (⟨x.toArray⟩ : Str).length == 0) = true
    · rw [if_pos h2]
      rw [Bool.or_eq_true, beq_iff_eq, beq_iff_eq] at h2
      rcases h2 with h2 | h2
      · rw [h2]
        simp
      · rw [str_len] at h2
        have e : x = [] := List.length_eq_zero_iff.mp h2
        subst e
        simp
    · rw [if_neg h2]
      congr 1
      rw [foldl_app]
      simp
/-! ## plain data in the heap -/
mutual
def datM : MV → PyData
  | .non => .none
  | .bl b => .bool b
  | .int i => .int i
  | .str x => .str ⟨x.toArray⟩
  | .tup xs => .tuple (datL xs)
  | .lst xs => .list (datL xs)
  | _ => .none
def datL : List MV → List PyData
  | [] => []
  | x :: xs => datM x :: datL xs
end
mutual
theorem plain_dp (S : Sim w F G H) : ∀ {n : Nat} {x : MV} {v : V}, plain n x = true → Rep w F x v → Dp w.K H v (datM x) ∧ PyData.canLay0 (datM x) = true ∧ PyData.depth (datM x) ≤ n + 1
  | _, .non, _, _, r => by rw [show _ = _ from r]; exact ⟨.non, rfl, Nat.le_add_left _ _⟩
  | _, .bl _, _, _, r => by rw [show _ = _ from r]; exact ⟨.bl _, rfl, Nat.le_add_left _ _⟩
  | _, .int _, _, _, r => by rw [show _ = _ from r]; exact ⟨.int _, rfl, Nat.le_add_left _ _⟩
  | _, .str _, _, _, r => by
    rw [show _ = _ from r.1]
    refine ⟨.str _, ?_, Nat.le_add_left _ _⟩
    show PyData.strOk _ = true
    unfold PyData.strOk
    rw [Array.all_eq_true']
    intro c hc
    exact decide_eq_true (r.2.2 c (by simpa using hc))
  | 0, .tup _, _, h, _ => nomatch h
  | n + 1, .tup xs, _, h, r => by
    obtain ⟨a, ys, rfl, h2, h3⟩ := S.tup r
    obtain ⟨q1, q2, q3⟩ := plain_dpL S h h3
    exact ⟨.tup h2 q1, q2, Nat.succ_le_succ q3⟩
  | 0, .lst _, _, h, _ => nomatch h
  | n + 1, .lst xs, _, h, r => by
    obtain ⟨a, ys, rfl, h2, h3⟩ := S.lst r (.inl rfl)
    obtain ⟨q1, q2, q3⟩ := plain_dpL S h h3
    exact ⟨.lst (SqL.of h2) q1, q2, Nat.succ_le_succ q3⟩
  | _, .klst _, _, h, _ => by unfold plain at h; cases h
  | _, .dct _ _, _, h, _ => by unfold plain at h; cases h
  | _, .obj _ _ _, _, h, _ => by unfold plain at h; cases h
  | _, .ref _, _, h, _ => by unfold plain at h; cases h
  | _, .ty _, _, h, _ => by unfold plain at h; cases h
  | _, .cls _, _, h, _ => by unfold plain at h; cases h
theorem plain_dpL (S : Sim w F G H) : ∀ {n : Nat} {xs : List MV} {vs : List V}, plainL n xs = true → RepL w F xs vs → DpAll w.K H vs (datL xs) ∧ PyData.canLayAll0 (datL xs) = true ∧ PyData.depthAll (datL xs) ≤ n + 1
  | _, [], _, _, r => by rw [show _ = _ from r]; exact ⟨.nil, rfl, Nat.zero_le _⟩
  | n, x :: xs, _, h, ⟨y, r, e, h1, h2⟩ => by
    unfold plainL at h
    rw [Bool.and_eq_true] at h
    obtain ⟨p1, p2, p3⟩ := plain_dp S h.1 h1
    obtain ⟨q1, q2, q3⟩ := plain_dpL S h.2 h2
    rw [e]
    refine ⟨.cons p1 q1, ?_, ?_⟩
    · show (PyData.canLay0 _ && PyData.canLayAll0 _) = true
      rw [p2, q2]
      rfl
    · exact Nat.max_le.mpr ⟨p3, q3⟩
end
theorem str_beq (x y : Tx) : ((⟨x.toArray⟩ : Str) == ⟨y.toArray⟩) = decide (x = y) := by
  by_cases e : x = y
  · subst e
    simp
  · rw [decide_eq_false e]
    refine beq_eq_false_iff_ne.mpr fun q => e ?_
    have q' : x.toArray = y.toArray := congrArg Str.cps q
    simpa using q'
mutual
theorem eqM_eqv : ∀ {n m : Nat} {x y : MV}, plain n x = true → plain m y = true → PyData.eqv (datM x) (datM y) = eqM x y
  | n, m, x, y, hx, hy => by
    cases x with
    | tup xs =>
      cases n with
      | zero => cases hx
      | succ n =>
        cases y with
        | tup ys =>
          cases m with
          | zero => cases hy
          | succ m => exact eqL_eqv (n := n) (m := m) hx hy
        | non => rfl
        | bl _ => rfl
        | int _ => rfl
        | str _ => rfl
        | lst _ => rfl
        | _ => unfold plain at hy; cases hy
    | lst xs =>
      cases n with
      | zero => cases hx
      | succ n =>
        cases y with
        | lst ys =>
          cases m with
          | zero => cases hy
          | succ m => exact eqL_eqv (n := n) (m := m) hx hy
        | non => rfl
        | bl _ => rfl
        | int _ => rfl
        | str _ => rfl
        | tup _ => rfl
        | _ => unfold plain at hy; cases hy
    | non => cases y <;> first | rfl | (unfold plain at hy; cases hy)
    | bl a => cases y <;> first | rfl | (unfold plain at hy; exact absurd hy Bool.false_ne_true) | (simp only [datM, PyData.eqv, eqM, Bool.beq_eq_decide_eq]; done)
    | int i => cases y <;> first | rfl | (unfold plain at hy; exact absurd hy Bool.false_ne_true) | (simp only [datM, PyData.eqv, eqM, Bool.beq_eq_decide_eq]; done)
    | str x => cases y <;> first | rfl | (unfold plain at hy; exact absurd hy Bool.false_ne_true) | exact str_beq _ _
    | _ => unfold plain at hx; cases hx
theorem eqL_eqv : ∀ {n m : Nat} {xs ys : List MV}, plainL n xs = true → plainL m ys = true → PyData.eqvAll (datL xs) (datL ys) = eqL xs ys
  | _, _, [], [], _, _ => rfl
  | _, _, [], _ :: _, _, _ => rfl
  | _, _, _ :: _, [], _, _ => rfl
  | n, m, x :: xs, y :: ys, hx, hy => by
    unfold plainL at hx hy
    rw [Bool.and_eq_true] at hx hy
    show (PyData.eqv (datM x) (datM y) && PyData.eqvAll (datL xs) (datL ys)) = (eqM x y && eqL xs ys)
    rw [eqM_eqv hx.1 hy.1, eqL_eqv hx.2 hy.2]
end
theorem any_eqM {x : MV} {n m : Nat} (hx : plain n x = true) : ∀ {xs : List MV}, plainL m xs = true → ((datL xs).any fun z => PyData.eqv z (datM x)) = xs.any fun z => eqM z x
  | [], _ => rfl
  | y :: ys, h => by
    unfold plainL at h
    rw [Bool.and_eq_true] at h
    show (PyData.eqv (datM y) (datM x) || _) = (eqM y x || _)
    rw [eqM_eqv h.1 hx, any_eqM hx h.2]
end
end MP

set_option Elab.async false
set_option linter.all false
set_option maxRecDepth 100000
set_option maxHeartbeats 1000000
namespace MP
open PySem PySem.Spec PyProof.Rows L2
section
variable {w : Wd} {X : Cx}
def LR2 (w : Wd) (m : MV → MV → MH → MQ → Prop) : R2 := fun x y H Q => ∃ F G x' y' Q', Sim w F G H ∧ Rep w F x' x ∧ Rep w F y' y ∧ m x' y' G Q' ∧ OkQ w F G H Q' Q
theorem wide_one {x : Tx} {c : Nat} (h : TxOk x) (hc : c ∈ x) : TxOk [c] := TxOk.one (h.2 c hc)
theorem op_mulS : OpR X (binaryOp .Mult) (fun x y H Q => ∃ (a : Tx) (k : Int), x = .str ⟨a.toArray⟩ ∧ y = .int k ∧ 0 ≤ k ∧ k < 2 ^ 30 ∧ a.length * k.toNat ≤ sizeLine ∧ Q (.str ⟨((List.replicate k.toNat a).flatten).toArray⟩) H) := by
  intro pins s σ H x y v u Q I rx ry h
  obtain ⟨a, k, rfl, rfl, h0, h1, h2, q⟩ := h
  obtain ⟨t, rfl⟩ := rx
  obtain ⟨t', rfl⟩ := ry
  refine SB.mul ⟨?_, fun _ _ => ?_, fun _ _ => ?_⟩ fun t2 k2 => ?_
  · rw [decide_eq_false (by omega), decide_eq_false (by omega)]
    rfl
  · rw [str_len]
    have hz : a.length * k.toNat ≤ 16777216 := by rw [← sizeLine_eq]; exact h2
    have hk : 0 < k := by rename_i q1 _; omega
    have e : ((k.toNat : Nat) : Int) = k := Int.toNat_of_nonneg h0
    intro q3
    have q4 : (2 ^ 63 - 1 : Int) / k * k ≥ (2 ^ 63 - 1) - k := by
      have := Int.emod_lt_of_pos (2 ^ 63 - 1 : Int) hk
      have := Int.emod_add_mul_ediv (2 ^ 63 - 1 : Int) k
      rw [Int.mul_comm]
      omega
    have q5 : (a.length : Int) * k ≥ ((2 ^ 63 - 1 : Int) / k + 1) * k := Int.mul_le_mul_of_nonneg_right q3 h0
    have q6 : (a.length : Int) * k ≤ 16777216 := by
      have q7 : ((a.length * k.toNat : Nat) : Int) ≤ ((16777216 : Nat) : Int) := Int.ofNat_le.mpr hz
      rw [Int.natCast_mul, e] at q7
      exact q7
    rw [Int.add_mul] at q5
    omega
  · rw [str_len]
    unfold Builtin.Str.tooLong
    exact decide_eq_false (by omega)
  · rw [mul_eq]
    exact ⟨.str _, H, I.tok _, ⟨_, rfl⟩, q⟩
theorem op_bin (op : Operator) (hK : X.K = w.K) : OpR X (binaryOp op) (LR2 w (binM op)) := by
  intro pins s σ H x y v u Q I rx ry h
  obtain ⟨F, G, x', y', Q', S, r1, r2, hm, hq⟩ := h
  unfold binM at hm
  split at hm
  · rename_i i j
    have e1 : x = .int i := r1
    have e2 : y = .int j := r2
    subst e1 e2
    exact op_add pins s σ H _ _ v u Q I rx ry ⟨i, j, rfl, rfl, hq F G H (.int (i + j)) _ .refl S rfl hm⟩
  · rename_i i j
    have e1 : x = .int i := r1
    have e2 : y = .int j := r2
    subst e1 e2
    exact op_sub pins s σ H _ _ v u Q I rx ry ⟨i, j, rfl, rfl, hq F G H (.int (i - j)) _ .refl S rfl hm⟩
  · rename_i i j
    have e1 : x = .int i := r1
    have e2 : y = .int j := r2
    subst e1 e2
    exact op_mulW pins s σ H _ _ v u Q I rx ry ⟨i, j, rfl, rfl, hm.1, hq F G H (.int (i * j)) _ .refl S rfl hm.2⟩
  · rename_i i j
    have e1 : x = .int i := r1
    have e2 : y = .int j := r2
    subst e1 e2
    exact op_fdivW pins s σ H _ _ v u Q I rx ry ⟨i, j, rfl, rfl, hm.1, hq F G H (.int (i / j)) _ .refl S rfl hm.2⟩
  · rename_i i j
    have e1 : x = .int i := r1
    have e2 : y = .int j := r2
    subst e1 e2
    exact op_mod pins s σ H _ _ v u Q I rx ry ⟨i, j, rfl, rfl, hm.1, hq F G H (.int (i % j)) _ .refl S rfl hm.2⟩
  · rename_i i j
    have e1 : x = .int i := r1
    have e2 : y = .int j := r2
    subst e1 e2
    exact op_pow pins s σ H _ _ v u Q I rx ry ⟨i, j, rfl, rfl, hm.1, hq F G H (.int (i ^ j.toNat)) _ .refl S rfl hm.2⟩
  · rename_i a b
    obtain ⟨e1, o1⟩ := r1
    obtain ⟨e2, o2⟩ := r2
    subst e1 e2
    refine op_add_str pins s σ H _ _ v u Q I rx ry ⟨_, _, rfl, rfl, ?_, ?_⟩
    · rw [str_len, str_len]
      exact hm.1
    · rw [str_app]
      exact hq F G H (.str (a ++ b)) _ .refl S ⟨rfl, o1.app o2 hm.1⟩ hm.2
  · rename_i a k
    obtain ⟨e1, o1⟩ := r1
    have e2 : y = .int k := r2
    subst e1 e2
    exact op_mulS pins s σ H _ _ v u Q I rx ry ⟨a, k, rfl, rfl, hm.1, hm.2.1, hm.2.2.1, hq F G H (.str _) _ .refl S ⟨rfl, o1.rep _ hm.2.2.1⟩ hm.2.2.2⟩
  · rcases rdd_of hm with ⟨ys, il, hm⟩ | ⟨nl, nr, hm⟩
    · obtain ⟨a, vs, rfl, ha, ra⟩ := S.lst r1 (.inl rfl)
      obtain ⟨b, us, rfl, hb, rb⟩ := S.lst r2 il
      exact op_cat pins s σ H _ _ v u Q I rx ry ⟨a, b, vs, us, rfl, rfl, ha, hb, by rw [← ra.length, ← rb.length]; exact hm.1, newL_ok S (ra.append rb) hm.2 hq⟩
    · split at hm
      · exact (nl _ (.inl rfl)).elim
      · exact hm.elim
  · obtain ⟨xs, hp, hm⟩ := hm
    rcases rdd_of hm with ⟨ys, il, hm⟩ | ⟨nl, nr, hm⟩
    · obtain ⟨a, vs, rfl, ha, ra⟩ := S.lst r1 (.inr ⟨_, rfl, hp⟩)
      obtain ⟨b, us, rfl, hb, rb⟩ := S.lst r2 il
      exact op_cat pins s σ H _ _ v u Q I rx ry ⟨a, b, vs, us, rfl, rfl, ha, hb, by rw [← ra.length, ← rb.length]; exact hm.1, newL_ok S (ra.append rb) hm.2 hq⟩
    · split at hm
      · exact (nl _ (.inl rfl)).elim
      · exact hm.elim
  · rename_i xs k
    obtain ⟨a, vs, rfl, ha, ra⟩ := S.lst r1 (.inl rfl)
    have e2 : y = .int k := r2
    subst e2
    exact op_rep pins s σ H _ _ v u Q I rx ry ⟨a, k, vs, rfl, rfl, ha, by have := hm.1; omega, by have := hm.2.1; omega, by rw [← ra.length]; exact hm.2.2.1, newL_ok S (ra.rep _) hm.2.2.2 hq⟩
  · exact hm.elim
theorem Room.units65 {k : Nat} {A : Around} (r : Room k A) : A.units + 65 < cLine := by have := r.un; omega
theorem shaped_of {d : PyData} {n : Nat} (h : PyData.canLay0 d = true) (h2 : PyData.depth d ≤ n + 1) (hn : n ≤ 63) : SeqAt.shaped d = true := by
  unfold SeqAt.shaped
  rw [h, Bool.true_and]
  exact decide_eq_true (by omega)
theorem hasM_of {F : Hp} {G : MH} {H : Hp} {x' y' : MV} {x y : V} {k : Bool → Prop} (S : Sim w F G H) (r1 : Rep w F x' x) (r2 : Rep w F y' y) (h : hasM x' y' G k) :
    (∃ (c : Nat) (z : Tx), x = .str ⟨#[c]⟩ ∧ y = .str ⟨z.toArray⟩ ∧ k (decide (c ∈ z))) ∨
    (∃ d ds, Dp w.K H x d ∧ Dp w.K H y (.list ds) ∧ SeqAt.shaped d = true ∧ SeqAt.shaped (.list ds) = true ∧ k (ds.any fun z => PyData.eqv z d)) := by
  rcases rdd_of h with ⟨ys, il, hm⟩ | ⟨nl, nr, hm⟩
  · obtain ⟨a, us, rfl, ha, ra⟩ := S.lst r2 il
    obtain ⟨p1, p2, p3⟩ := hm
    obtain ⟨d1, d2, d3⟩ := plain_dp S p1 r1
    obtain ⟨e1, e2, e3⟩ := plain_dpL S p2 ra
    refine .inr ⟨_, _, d1, .lst (SqL.of ha) e1, shaped_of d2 d3 (by omega), shaped_of (n := 61) e2 (Nat.succ_le_succ e3) (by omega), ?_⟩
    rw [any_eqM p1 p2]
    exact p3
  · split at hm
    · split at hm
      · obtain ⟨e1, _⟩ := r1
        obtain ⟨e2, _⟩ := r2
        exact .inl ⟨_, _, e1, e2, hm⟩
      · exact hm.elim
    · exact (nl _ (.inl rfl)).elim
    · exact hm.elim
theorem plain_two {F : Hp} {G : MH} {H : Hp} {x' : MV} {x : V} {k : MV → Prop} (S : Sim w F G H) (r1 : Rep w F x' x) (h : rdd G x' k) : ∃ x2, k x2 ∧ ∀ n, plain n x2 = true → Dp w.K H x (datM x2) ∧ PyData.canLay0 (datM x2) = true ∧ PyData.depth (datM x2) ≤ n + 1 := by
  rcases rdd_of h with ⟨ys, il, hm⟩ | ⟨nl, nr, hm⟩
  · obtain ⟨a, us, rfl, ha, ra⟩ := S.lst r1 il
    refine ⟨_, hm, fun n hp => ?_⟩
    cases n with
    | zero => cases hp
    | succ n =>
      obtain ⟨e1, e2, e3⟩ := plain_dpL S (n := n) hp ra
      exact ⟨.lst (SqL.of ha) e1, e2, Nat.succ_le_succ e3⟩
  · exact ⟨_, hm, fun n hp => plain_dp S hp r1⟩
theorem rep_non {F : Hp} {x : MV} (r : Rep w F x .non) : x = .non := by
  cases x with
  | non => rfl
  | bl _ => exact nomatch (show V.non = V.bl _ from r)
  | int _ => exact nomatch (show V.non = V.int _ from r)
  | str _ => exact nomatch (show V.non = V.str _ from r.1)
  | ty _ => exact nomatch (show V.non = V.ty _ from r)
  | ref _ => exact nomatch (show V.non = V.ref _ from r)
  | cls _ => exact nomatch (show V.non = V.ref _ from r)
  | tup _ => obtain ⟨_, _, h, _⟩ := r; exact nomatch h
  | lst _ => obtain ⟨_, _, h, _⟩ := r; exact nomatch h
  | klst _ => obtain ⟨_, _, h, _⟩ := r; exact nomatch h
  | dct _ _ => obtain ⟨_, _, h, _⟩ := r; exact nomatch h
  | obj _ _ _ => obtain ⟨_, _, _, h, _⟩ := r; exact nomatch h
theorem rep_isNon {F : Hp} {x' : MV} {x : V} (r : Rep w F x' x) : decide (x = V.non) = isNon x' := by
  by_cases e : x = .non
  · subst e
    rw [rep_non r]
    rfl
  · rw [decide_eq_false e]
    cases x' with
    | non => exact (e r).elim
    | _ => rfl
theorem op_cmp (op : CmpOp) (hK : X.K = w.K) {k : Nat} (hr : Room k X.A) : OpR X (compareOp op) (LR2 w (cmpM op)) := by
  intro pins s σ H x y v u Q I rx ry h
  obtain ⟨F, G, x', y', Q', S, r1, r2, hm, hq⟩ := h
  unfold cmpM at hm
  split at hm
  · rename_i i j
    have e1 : x = .int i := r1
    have e2 : y = .int j := r2
    subst e1 e2
    exact op_lt pins s σ H _ _ v u Q I rx ry ⟨i, j, rfl, rfl, hq F G H (.bl _) _ .refl S rfl hm⟩
  · rename_i i j
    have e1 : x = .int i := r1
    have e2 : y = .int j := r2
    subst e1 e2
    exact op_le pins s σ H _ _ v u Q I rx ry ⟨i, j, rfl, rfl, hq F G H (.bl _) _ .refl S rfl hm⟩
  · rename_i i j
    have e1 : x = .int i := r1
    have e2 : y = .int j := r2
    subst e1 e2
    exact op_gt pins s σ H _ _ v u Q I rx ry ⟨i, j, rfl, rfl, hq F G H (.bl _) _ .refl S rfl hm⟩
  · rename_i i j
    have e1 : x = .int i := r1
    have e2 : y = .int j := r2
    subst e1 e2
    exact op_ge pins s σ H _ _ v u Q I rx ry ⟨i, j, rfl, rfl, hq F G H (.bl _) _ .refl S rfl hm⟩
  · obtain ⟨x2, hm, h1⟩ := plain_two S r1 hm
    obtain ⟨y2, ⟨p1, p2, hm⟩, h2⟩ := plain_two S r2 hm
    obtain ⟨d1, d2, d3⟩ := h1 _ p1
    obtain ⟨e1, e2, e3⟩ := h2 _ p2
    refine op_eqD hr.units pins s σ H x y v u Q I rx ry ⟨_, _, by rw [hK]; exact d1, by rw [hK]; exact e1, shaped_of d2 d3 (by omega), shaped_of e2 e3 (by omega), ?_⟩
    rw [eqM_eqv p1 p2]
    exact hq F G H (.bl _) _ .refl S rfl hm
  · obtain ⟨x2, hm, h1⟩ := plain_two S r1 hm
    obtain ⟨y2, ⟨p1, p2, hm⟩, h2⟩ := plain_two S r2 hm
    obtain ⟨d1, d2, d3⟩ := h1 _ p1
    obtain ⟨e1, e2, e3⟩ := h2 _ p2
    refine op_neD hr.units pins s σ H x y v u Q I rx ry ⟨_, _, by rw [hK]; exact d1, by rw [hK]; exact e1, shaped_of d2 d3 (by omega), shaped_of e2 e3 (by omega), ?_⟩
    rw [eqM_eqv p1 p2]
    exact hq F G H (.bl _) _ .refl S rfl hm
  · rcases hasM_of S r1 r2 hm with ⟨c, z, e1, e2, hm⟩ | ⟨d, ds, h1, h2, h3, h4, hm⟩
    · exact op_in_sign pins s σ H x y v u Q I rx ry ⟨c, _, e1, e2, hq F G H (.bl _) _ .refl S rfl hm⟩
    · exact op_inD (MP.Room.units65 hr) pins s σ H x y v u Q I rx ry ⟨d, ds, by rw [hK]; exact h1, by rw [hK]; exact h2, h3, h4, hq F G H (.bl _) _ .refl S rfl hm⟩
  · rcases hasM_of S r1 r2 hm with ⟨c, z, e1, e2, hm⟩ | ⟨d, ds, h1, h2, h3, h4, hm⟩
    · exact op_notIn_sign pins s σ H x y v u Q I rx ry ⟨c, _, e1, e2, hq F G H (.bl _) _ .refl S rfl hm⟩
    · exact op_notInD (MP.Room.units65 hr) pins s σ H x y v u Q I rx ry ⟨d, ds, by rw [hK]; exact h1, by rw [hK]; exact h2, h3, h4, hq F G H (.bl _) _ .refl S rfl hm⟩
  · have e2 : y = .non := r2
    subst e2
    refine op_isN pins s σ H x _ v u Q I rx ry ⟨rfl, ?_⟩
    rw [show decide (x = V.non) = _ from rep_isNon r1]
    exact hq F G H (.bl _) _ .refl S rfl hm
  · have e2 : y = .non := r2
    subst e2
    refine op_notN pins s σ H x _ v u Q I rx ry ⟨rfl, ?_⟩
    rw [show decide (x = V.non) = _ from rep_isNon r1]
    exact hq F G H (.bl _) _ .refl S rfl hm
  · exact hm.elim
end
end MP

set_option Elab.async false
set_option linter.all false
set_option maxRecDepth 100000
set_option maxHeartbeats 1000000
namespace MP
open PySem PySem.Spec PyProof.Rows L2
section
variable {w : Wd} {X : Cx} {F : Hp} {G : MH} {H : Hp}
/-! ## subscripts and slices -/
theorem RepL.atI {xs : List MV} {vs : List V} {i : Int} {z : MV} (r : RepL w F xs vs) (h : L2.atI xs i = some z) : ∃ b, L2.atI vs i = some b ∧ Rep w F z b := by
  unfold L2.atI at h ⊢
  rw [← r.length]
  cases e : ixN xs.length i with
  | none => rw [e] at h; cases h
  | some j =>
    rw [e] at h
    exact r.get h
theorem ix_any (hK : X.K = w.K) : IxR X (LR2 w fun a i G Q => idxM a i G Q) := by
  intro value slice pins s σ H x y v u Q I rx ry h hs
  obtain ⟨F, G, x', y', Q', S, r1, r2, hm, hq⟩ := h
  unfold idxM at hm
  split at hm
  · rename_i i
    have e2 : y = .int i := r2
    subst e2
    rcases rdd_of hm with ⟨xs, il, hm⟩ | ⟨nl, nr, hm⟩
    · obtain ⟨a, vs, rfl, ha, ra⟩ := S.lst r1 il
      obtain ⟨z, hz, hm⟩ := hm
      obtain ⟨b, hb, rb⟩ := ra.atI hz
      exact ix_list value slice pins s σ H _ _ v u Q I rx ry ⟨a, vs, i, b, rfl, rfl, SqL.of ha, hb, hq F G H z b .refl S rb hm⟩ hs
    · split at hm
      · exact (nl _ (.inl rfl)).elim
      · obtain ⟨a, vs, rfl, ha, ra⟩ := S.tup r1
        obtain ⟨z, hz, hm⟩ := hm
        obtain ⟨b, hb, rb⟩ := ra.atI hz
        exact ix_tup value slice pins s σ H _ _ v u Q I rx ry ⟨a, vs, i, b, rfl, rfl, by rw [hK]; exact ha, hb, hq F G H z b .refl S rb hm⟩ hs
      · obtain ⟨a, vs, rfl, ha, ra⟩ := S.klst r1
        obtain ⟨z, hz, hm⟩ := hm
        obtain ⟨b, hb, rb⟩ := ra.atI hz
        exact ix_list value slice pins s σ H _ _ v u Q I rx ry ⟨a, vs, i, b, rfl, rfl, by rw [hK]; exact ha, hb, hq F G H z b .refl S rb hm⟩ hs
      · obtain ⟨e1, o1⟩ := r1
        subst e1
        obtain ⟨c, hc, hm⟩ := hm
        obtain ⟨j, hj, hz, _, _⟩ := atI_get hc
        exact ix_str value slice pins s σ H _ _ v u Q I rx ry ⟨_, i, c, rfl, rfl, by rw [str_len]; exact o1.1, hc, hq F G H (.str [c]) _ .refl S ⟨rfl, wide_one o1 (List.mem_of_getElem? hz)⟩ hm⟩ hs
      · exact hm.elim
  · exact hm.elim
theorem RepL.cut {xs : List MV} {vs : List V} (r : RepL w F xs vs) (lo hi : Option Int) : RepL w F (cut xs lo hi) (cutV vs lo hi) := by
  unfold MP.cut cutV
  rw [r.length]
  exact (r.drop _).take _
theorem cutS_eq (x : Tx) (lo hi : Option Int) : cutS ⟨x.toArray⟩ lo hi = ⟨(cut x lo hi).toArray⟩ := by
  unfold cutS cut
  simp [Str.length]
theorem TxOk.cut {x : Tx} (a : TxOk x) (lo hi : Option Int) : TxOk (cut x lo hi) := by
  unfold MP.cut
  refine a.sub ?_ fun c hc => ?_
  · rw [List.length_take, List.length_drop]
    omega
  · exact List.mem_of_mem_drop (List.mem_of_mem_take hc)
def LSl (w : Wd) : V → Option Int → Option Int → Hp → VK → Prop := fun x lo hi H Q => ∃ F G x' Q', Sim w F G H ∧ Rep w F x' x ∧ slcM x' lo hi G Q' ∧ OkQ w F G H Q' Q
theorem sl_any (hK : X.K = w.K) : SlR X (LSl w) := by
  intro pins s σ H x v vl vu lo hi sl Q I rx h1 h2 h3 h
  obtain ⟨F, G, x', Q', S, r1, hm, hq⟩ := h
  rcases rdd_of hm with ⟨xs, il, hm⟩ | ⟨nl, nr, hm⟩
  · obtain ⟨a, vs, rfl, ha, ra⟩ := S.lst r1 il
    exact sl_list pins s σ H _ v vl vu lo hi sl Q I rx h1 h2 h3 ⟨a, vs, rfl, SqL.of ha, newL_ok S (ra.cut lo hi) hm hq⟩
  · split at hm
    · exact (nl _ (.inl rfl)).elim
    · obtain ⟨a, vs, rfl, ha, ra⟩ := S.klst r1
      exact sl_list pins s σ H _ v vl vu lo hi sl Q I rx h1 h2 h3 ⟨a, vs, rfl, by rw [hK]; exact ha, newL_ok S (ra.cut lo hi) hm hq⟩
    · obtain ⟨e1, o1⟩ := r1
      subst e1
      refine sl_str pins s σ H _ v vl vu lo hi sl Q I rx h1 h2 h3 ⟨_, rfl, by rw [str_len]; exact o1.1, ?_⟩
      rw [cutS_eq]
      exact hq F G H (.str _) _ .refl S ⟨rfl, o1.cut lo hi⟩ hm
    · exact hm.elim
/-! ## truth -/
theorem RepL.isE : ∀ {xs : List MV} {vs : List V}, RepL w F xs vs → xs.isEmpty = vs.isEmpty
  | [], _, h => by rw [show _ = _ from h]; rfl
  | _ :: _, _, ⟨_, _, h, _⟩ => by rw [h]; rfl
theorem truM_ok {x' : MV} {x : V} {k : Bool → Prop} (S : Sim w F G H) (r : Rep w F x' x) (h : truM x' G k) : ∃ b, TruV w.K x H b ∧ k b := by
  unfold truM at h
  split at h
  · rename_i b
    have e : x = .bl b := r
    subst e
    exact ⟨b, rfl, h⟩
  · have e : x = .non := r
    subst e
    exact ⟨false, rfl, h⟩
  · rename_i i
    have e : x = .int i := r
    subst e
    exact ⟨_, rfl, h⟩
  · rename_i z
    obtain ⟨e, o⟩ := r
    subst e
    refine ⟨_, ⟨by rw [str_len]; exact o.1, rfl⟩, ?_⟩
    rw [str_len]
    have e2 : (((z.length : Nat) : Int) != 0) = !z.isEmpty := by
      cases z with
      | nil => rfl
      | cons c r => rfl
    rw [e2]
    exact h
  · obtain ⟨a, vs, rfl, ha, ra⟩ := S.lst r (.inl rfl)
    refine ⟨_, .inl ⟨vs, SqL.of ha, rfl⟩, ?_⟩
    rw [show vs.isEmpty = _ from ra.isE.symm]
    exact h
  · obtain ⟨a, vs, rfl, ha, ra⟩ := S.tup r
    refine ⟨_, .inr (.inl ⟨vs, ha, rfl⟩), ?_⟩
    rw [show vs.isEmpty = _ from ra.isE.symm]
    exact h
  · obtain ⟨xs, hp, h⟩ := h
    obtain ⟨a, vs, rfl, ha, ra⟩ := S.lst r (.inr ⟨_, rfl, hp⟩)
    refine ⟨_, .inl ⟨vs, SqL.of ha, rfl⟩, ?_⟩
    rw [show vs.isEmpty = _ from ra.isE.symm]
    exact h
  · exact h.elim
end
end MP

set_option Elab.async false
set_option linter.all false
set_option maxRecDepth 100000
set_option maxHeartbeats 1000000
namespace MP
open PySem PySem.Spec PyProof.Rows L2
section
variable {w : Wd} {X : Cx} {F : Hp} {G : MH} {H : Hp}
/-! ## builtins -/
theorem sub_kit (K : PySem.W.Frag) : ∀ a b : BT, PySem.W.kitOne K (.type a.nm) (.type b.nm) = some (subT a b) := by
  intro a b
  refine kit_ty ?_
  cases a <;> cases b <;> decide +kernel
theorem any_kit (K : PySem.W.Frag) (t : BT) : ∀ ts : List BT, PySem.W.kitAny K (.type t.nm) (ts.map fun b => .type b.nm) = some (anyT t ts)
  | [] => rfl
  | b :: r => by
    refine kitAny_cons (sub_kit K t b) (fun e => ?_) (fun e => ?_)
    · show _ = some (subT t b || anyT t r)
      rw [e]
      exact any_kit K t r
    · show (subT t b || anyT t r) = true
      rw [e]
      rfl
theorem ty_of (S : Sim w F G H) {x' : MV} {x : V} {t : BT} (r : Rep w F x' x) (h : tyM x' = some t) : TyX w.K H x (.type t.nm) := by
  cases x' with
  | non => cases h; rw [show x = _ from r]; exact .base .non
  | bl b => cases h; rw [show x = _ from r]; exact .base (.bl _)
  | int i => cases h; rw [show x = _ from r]; exact .base (.int _)
  | str z => cases h; rw [show x = _ from r.1]; exact .base (.str _)
  | tup xs =>
    cases h
    obtain ⟨a, ys, rfl, h2, _⟩ := r
    rcases h2 with h2 | ⟨o, its, n, h3, h4, _⟩
    · exact .base (.tup (S.sub _ _ h2))
    · exact .kTuple h3 h4
  | lst xs =>
    cases h
    obtain ⟨a, ys, rfl, h2, _⟩ := r
    exact .base (.lst (S.sub _ _ h2))
  | klst xs =>
    cases h
    obtain ⟨a, ys, rfl, h2, _⟩ := r
    rcases h2 with ⟨o, h2⟩ | ⟨o, its, n, h3, h4, _⟩
    · exact .base (.frz (S.sub _ _ h2))
    · exact .kList h3 h4
  | dct ks vs =>
    cases h
    obtain ⟨a, kvs, rfl, h2, _⟩ := r
    exact .base (.dK (S.sub _ _ h2))
  | _ => cases h
theorem tyO_of (S : Sim w F G H) {p : Addr} {o : MO} {t : BT} (h : G p = some o) (ht : tyO o = some t) : TyX w.K H (.ref p) (.type t.nm) := by
  obtain ⟨_, o', h2, r⟩ := S.mu p o h
  cases o with
  | lst xs =>
    cases ht
    obtain ⟨ys, rfl, _⟩ := r
    exact .base (.lst h2)
  | dct ks vs =>
    cases ht
    obtain ⟨kvs, rfl, _⟩ := r
    exact .base (.dK h2)
  | ins _ _ _ => cases ht
theorem vals_bl : ∀ {xs : List MV} {vs : List V} {bs : List Bool}, RepL w F xs vs → blsOf xs = some bs → vs = bs.map V.bl
  | [], vs, bs, r, h => by
    cases h
    exact r
  | x :: xs, vs, bs, ⟨y, r, e, h1, h2⟩, h => by
    cases x with
    | bl b =>
      unfold blsOf at h
      cases q : blsOf xs with
      | none => rw [q] at h; cases h
      | some cs =>
        rw [q] at h
        cases h
        rw [e, show y = V.bl b from h1, vals_bl h2 q]
        rfl
    | _ => cases h
theorem vals_str : ∀ {xs : List MV} {vs : List V} {ts : List Tx}, RepL w F xs vs → strsOf xs = some ts → vs = (ts.map fun t => (⟨t.toArray⟩ : Str)).map V.str ∧ ∀ t ∈ ts, TxOk t
  | [], vs, ts, r, h => by
    cases h
    exact ⟨r, fun _ z => nomatch z⟩
  | x :: xs, vs, ts, ⟨y, r, e, h1, h2⟩, h => by
    cases x with
    | str b =>
      unfold strsOf at h
      cases q : strsOf xs with
      | none => rw [q] at h; cases h
      | some cs =>
        rw [q] at h
        cases h
        obtain ⟨e2, o2⟩ := vals_str h2 q
        rw [e, show y = _ from h1.1, e2]
        refine ⟨rfl, fun t ht => ?_⟩
        rcases List.mem_cons.mp ht with rfl | ht
        · exact h1.2
        · exact o2 t ht
    | _ => cases h
def LCl (w : Wd) (m : List MV → MH → MQ → Prop) : List V → Hp → VK → Prop := fun vs H Q => ∃ F G xs Q', Sim w F G H ∧ RepL w F xs vs ∧ m xs G Q' ∧ OkQ w F G H Q' Q
theorem repL1 {x : MV} {vs : List V} (r : RepL w F [x] vs) : ∃ v, vs = [v] ∧ Rep w F x v := by
  obtain ⟨y, r1, e, h1, h2⟩ := r
  rw [show r1 = [] from h2] at e
  exact ⟨y, e, h1⟩
theorem repL2 {x z : MV} {vs : List V} (r : RepL w F [x, z] vs) : ∃ v u, vs = [v, u] ∧ Rep w F x v ∧ Rep w F z u := by
  obtain ⟨y, r1, e, h1, h2⟩ := r
  obtain ⟨u, e2, h3⟩ := repL1 h2
  rw [e2] at e
  exact ⟨y, u, e, h1, h3⟩
def Prim.nm : Prim → String
  | .len => "len" | .isinst => "isinstance" | .abs => "abs" | .max2 => "max" | .min2 => "min" | .int => "int" | .str => "str" | .all => "all" | .any => "any" | .list => "list" | .tuple => "tuple"
def Prim.isTy : Prim → Bool
  | .int => true | .str => true | .list => true | .tuple => true | _ => false
def Prim.val (p : Prim) : Value := if p.isTy then .type p.nm else .builtin p.nm
theorem ofString_ok (t : String) : ∀ c ∈ (Str.ofString t).cps.toList, c < 1114112 := by
  rw [Str.ofString_eq_toList]
  intro c hc
  obtain ⟨d, _, rfl⟩ := List.mem_map.mp (show c ∈ t.toList.map Char.toNat by simpa using hc)
  have h := d.valid
  simp only [UInt32.isValidChar, Nat.isValidChar] at h
  show d.val.toNat < 1114112
  omega
theorem numT_ok {i : Int} (h : i.natAbs.log2 < 1920) : TxOk (numT i) := ⟨by
  have q := PySem.int_text_fits h
  unfold numT
  simpa [Str.length] using q, ofString_ok _⟩
theorem numT_eq (i : Int) : (⟨(numT i).toArray⟩ : Str) = Str.ofString (toString i) := by
  unfold numT
  simp
theorem call_prim (p : Prim) (hK : X.K = w.K) {k : Nat} (hr : Room k X.A) (hc : X.calm = true) : CallR X p.val (LCl w (primM p)) := by
  intro pins s σ H vs us Q I rv h
  obtain ⟨F, G, xs, Q', S, r, hm, hq⟩ := h
  unfold primM at hm
  split at hm
  · obtain ⟨v, rfl, r1⟩ := repL1 r
    rcases rdd_of hm with ⟨ys, il, hm⟩ | ⟨nl, nr, hm⟩
    · obtain ⟨a, ws, rfl, ha, ra⟩ := S.lst r1 il
      refine call_len pins s σ H _ us Q I rv ⟨_, _, rfl, .inl ⟨ws, SqL.of ha, rfl⟩, ?_⟩
      rw [← ra.length]
      exact hq F G H (.int _) _ .refl S rfl hm
    · split at hm
      · obtain ⟨e1, o1⟩ := r1
        subst e1
        refine call_len pins s σ H _ us Q I rv ⟨_, _, rfl, ⟨by rw [str_len]; exact o1.1, rfl⟩, ?_⟩
        rw [str_len]
        exact hq F G H (.int _) _ .refl S rfl hm
      · exact (nl _ (.inl rfl)).elim
      · obtain ⟨a, ws, rfl, ha, ra⟩ := S.tup r1
        refine call_len pins s σ H _ us Q I rv ⟨_, _, rfl, .inr ⟨ws, by rw [hK]; exact ha, rfl⟩, ?_⟩
        rw [← ra.length]
        exact hq F G H (.int _) _ .refl S rfl hm
      · obtain ⟨a, ws, rfl, ha, ra⟩ := S.klst r1
        refine call_len pins s σ H _ us Q I rv ⟨_, _, rfl, .inl ⟨ws, by rw [hK]; exact ha, rfl⟩, ?_⟩
        rw [← ra.length]
        exact hq F G H (.int _) _ .refl S rfl hm
      · exact hm.elim
  · obtain ⟨v, c, rfl, r1, r2⟩ := repL2 r
    rename_i x1 c1
    have key : ∀ t ts, TyX w.K H v (.type (BT.nm t)) → tysOf c1 = some ts → Q' (.bl (anyT t ts)) G → wpAny (model X.prog X.w) X.A (call (.builtin "isinstance") us) (EP X pins σ Q) X.xe s := by
      intro t ts ht hts q
      unfold tysOf at hts
      split at hts
      · cases hts
        rename_i b
        have e2 : c = .ty b.nm := r2
        subst e2
        refine call_isi pins s σ H _ us Q I rv ⟨v, _, _, _, _, rfl, .ty _, by rw [hK]; exact ht, sub_kit _ t b, ?_⟩
        have q2 : Q' (.bl (subT t b || false)) G := q
        rw [Bool.or_false] at q2
        exact hq F G H (.bl _) _ .refl S rfl q2
      · cases hts
        rename_i b d
        obtain ⟨a, ys, rfl, h2, h3⟩ := r2
        obtain ⟨v1, v2, e3, q1, q2⟩ := repL2 h3
        have e4 : v1 = .ty b.nm := q1
        have e5 : v2 = .ty d.nm := q2
        subst e3 e4 e5
        rcases h2 with h2 | h2
        · exact call_isiT pins s σ H _ us Q I rv ⟨v, a, _, _, _, _, rfl, S.sub _ _ h2, .cons (.ty _) (.cons (.ty _) .nil), by rw [hK]; exact ht, any_kit _ t [b, d], hq F G H (.bl _) _ .refl S rfl q⟩
        · obtain ⟨o, its, n, q3, q4, q5, q6, q7⟩ := h2
          generalize hl : its.toList = l at q7
          cases q7 with
          | cons z1 z2 =>
            cases z2 with
            | cons z2 z3 =>
              cases z3
              have ei : its.toList = [Value.type b.nm, Value.type d.nm] := by rw [hl, show _ = _ from z1, show _ = _ from z2]
              obtain ⟨oc, od, odt, osl⟩ := o
              simp only at q4 q5
              subst q4 q5
              refine call_isiK pins s σ H _ us Q I rv ⟨v, a, od, its.toList, n, osl, _, _, rfl, ?_, by rw [hK]; exact ht, by rw [ei]; exact any_kit _ t [b, d], hq F G H (.bl _) _ .refl S rfl q⟩
              rw [hK]
              simpa using q3
      · cases hts
    unfold isiM at hm
    split at hm
    · exact hm.elim
    · rename_i ts hts
      split at hm
      · obtain ⟨o, t, h1, h2, h3⟩ := hm
        have e1 : v = .ref _ := r1
        subst e1
        exact key t ts (tyO_of S h1 h2) hts h3
      · split at hm
        · rename_i t ht
          exact key t ts (ty_of S r1 ht) hts hm
        · exact hm.elim
  · obtain ⟨v, rfl, r1⟩ := repL1 r
    have e1 : v = .int _ := r1
    subst e1
    exact call_abs pins s σ H _ us Q I rv ⟨_, rfl, hq F G H (.int _) _ .refl S rfl hm⟩
  · obtain ⟨v, c, rfl, r1, r2⟩ := repL2 r
    have e1 : v = .int _ := r1
    have e2 : c = .int _ := r2
    subst e1 e2
    exact call_max2 hc pins s σ H _ us Q I rv ⟨_, _, rfl, hq F G H (.int _) _ .refl S rfl hm⟩
  · obtain ⟨v, c, rfl, r1, r2⟩ := repL2 r
    have e1 : v = .int _ := r1
    have e2 : c = .int _ := r2
    subst e1 e2
    exact call_min2 hc pins s σ H _ us Q I rv ⟨_, _, rfl, hq F G H (.int _) _ .refl S rfl hm⟩
  · obtain ⟨v, rfl, r1⟩ := repL1 r
    have e1 : v = .int _ := r1
    subst e1
    exact call_int1 pins s σ H _ us Q I rv (.inl ⟨_, rfl, hq F G H (.int _) _ .refl S rfl hm⟩)
  · obtain ⟨v, rfl, r1⟩ := repL1 r
    have e1 : v = .bl _ := r1
    subst e1
    exact call_int1 pins s σ H _ us Q I rv (.inr ⟨_, rfl, hq F G H (.int _) _ .refl S rfl hm⟩)
  · obtain ⟨v, rfl, r1, o1⟩ := repL1 r
    subst r1
    obtain ⟨n, h1, h2, hm⟩ := hm
    exact call_int_str pins s σ H _ us Q I rv ⟨_, n, rfl, h1, by rw [str_len]; exact h2, hq F G H (.int _) _ .refl S rfl hm⟩
  · obtain ⟨v, rfl, r1⟩ := repL1 r
    have e1 : v = .int _ := r1
    subst e1
    refine call_str_int pins s σ H _ us Q I rv ⟨_, rfl, hm.1, ?_⟩
    rw [← numT_eq]
    exact hq F G H (.str _) _ .refl S ⟨rfl, numT_ok hm.1⟩ hm.2
  · obtain ⟨v, rfl, r1⟩ := repL1 r
    rcases rdd_of hm with ⟨ys, il, bs, hb, hm⟩ | ⟨nl, nr, hm⟩
    · obtain ⟨a, ws, rfl, ha, ra⟩ := S.lst r1 il
      rw [vals_bl ra hb] at ha
      exact cr_all hc pins s σ H _ us Q I rv ⟨a, bs, rfl, SqL.of ha, hq F G H (.bl _) _ .refl S rfl hm⟩
    · split at hm
      · exact (nl _ (.inl rfl)).elim
      · exact hm.elim
  · obtain ⟨v, rfl, r1⟩ := repL1 r
    rcases rdd_of hm with ⟨ys, il, bs, hb, hm⟩ | ⟨nl, nr, hm⟩
    · obtain ⟨a, ws, rfl, ha, ra⟩ := S.lst r1 il
      rw [vals_bl ra hb] at ha
      exact cr_any hc pins s σ H _ us Q I rv ⟨a, bs, rfl, SqL.of ha, hq F G H (.bl _) _ .refl S rfl hm⟩
    · split at hm
      · exact (nl _ (.inl rfl)).elim
      · exact hm.elim
  · obtain ⟨v, rfl, r1⟩ := repL1 r
    rcases rdd_of hm with ⟨ys, il, hm⟩ | ⟨nl, nr, hm⟩
    · obtain ⟨a, ws, rfl, ha, ra⟩ := S.lst r1 il
      exact call_list_of pins s σ H _ us Q I rv ⟨a, ws, rfl, .inl (SqL.of ha), newL_ok S ra hm hq⟩
    · split at hm
      · exact (nl _ (.inl rfl)).elim
      · obtain ⟨a, ws, rfl, ha, ra⟩ := S.tup r1
        exact call_list_of pins s σ H _ us Q I rv ⟨a, ws, rfl, .inr (by rw [hK]; exact ha), newL_ok S ra hm hq⟩
      · obtain ⟨a, ws, rfl, ha, ra⟩ := S.klst r1
        exact call_list_of pins s σ H _ us Q I rv ⟨a, ws, rfl, .inl (by rw [hK]; exact ha), newL_ok S ra hm hq⟩
      · exact hm.elim
  · obtain ⟨v, rfl, r1⟩ := repL1 r
    have newT : ∀ {ys : List MV} {ws : List V}, RepL w F ys ws → Q' (.tup ys) G → ∀ l, H l = none → Q (.ref l) (upd H l (.tup ws)) := by
      intro ys ws ra q l hl
      have e : Ext F (upd F l (.tup ws)) := ext_upd (S.freeF hl)
      exact hq _ G _ (.tup ys) _ (.newF (S.freeF hl) hl) (S.newF hl) ⟨l, ws, rfl, .inl upd_same, ra.ext e⟩ q
    rcases rdd_of hm with ⟨ys, il, hm⟩ | ⟨nl, nr, hm⟩
    · obtain ⟨a, ws, rfl, ha, ra⟩ := S.lst r1 il
      exact call_tuple_of pins s σ H _ us Q I rv ⟨a, ws, rfl, .inl ⟨SqL.of ha, newT ra hm⟩⟩
    · split at hm
      · exact (nl _ (.inl rfl)).elim
      · have r1' := r1
        obtain ⟨a, ws, rfl, ha, ra⟩ := S.tup r1
        exact call_tuple_of pins s σ H _ us Q I rv ⟨a, ws, rfl, .inr ⟨by rw [hK]; exact ha, hq F G H (.tup _) _ .refl S r1' hm⟩⟩
      · obtain ⟨a, ws, rfl, ha, ra⟩ := S.klst r1
        exact call_tuple_of pins s σ H _ us Q I rv ⟨a, ws, rfl, .inl ⟨by rw [hK]; exact ha, newT ra hm⟩⟩
      · exact hm.elim
  · exact hm.elim
end
end MP

set_option Elab.async false
set_option linter.all false
set_option maxRecDepth 100000
set_option maxHeartbeats 1000000
namespace MP
open PySem PySem.Spec PyProof.Rows L2
section
variable {w : Wd} {X : Cx} {F : Hp} {G : MH} {H : Hp}
/-! ## methods -/
def LMt (w : Wd) (m : MV → List MV → MH → MQ → Prop) : V → List V → Hp → VK → Prop := fun x vs H Q => ∃ F G x' xs Q', Sim w F G H ∧ Rep w F x' x ∧ RepL w F xs vs ∧ m x' xs G Q' ∧ OkQ w F G H Q' Q
def Mth.nm : Mth → String
  | .append => "append" | .join => "join" | .split => "split" | .strip1 => "strip" | .sindex => "index" | .pop => "pop" | .popAt => "pop"
def Mth.ty (m : Mth) : String := if m.isStr then "str" else "list"
def Mth.id : Mth → String
  | .append => "list.append" | .join => "str.join" | .split => "str.split" | .strip1 => "str.strip" | .sindex => "str.index" | .pop => "list.pop" | .popAt => "list.pop"
theorem Mth.plain (m : Mth) : PlainAttrs m.ty := by
  cases m <;> first | exact PySem.F.plainAttrs_list | exact PySem.F.plainAttrs_str
theorem Mth.slot (m : Mth) : Slot m.ty (Str.ofString m.nm) m.id := by
  cases m
  · exact PySem.F.slot_list_append
  · exact PySem.F.slot_str_join
  · exact PySem.F.slot_str_split
  · exact PySem.F.slot_str_strip
  · exact PySem.F.slot_str_index
  · exact PySem.F.slot_list_pop
  · exact PySem.F.slot_list_pop
theorem Mth.descr (m : Mth) : typeOf (.builtin m.id) = pure (.type "method_descriptor") := by
  cases m
  · exact PySem.F.type_list_append
  · exact PySem.F.type_str_join
  · exact PySem.F.type_str_split
  · exact PySem.F.type_str_strip
  · exact PySem.F.type_str_index
  · exact PySem.F.type_list_pop
  · exact PySem.F.type_list_pop
theorem rcv_ok (hK : X.K = w.K) {m : Mth} {x' : MV} {x : V} {k : Prop} (S : Sim w F G H) (r : Rep w F x' x) (h : rcv m x' G k) : tyV X.K m.ty x H ∧ k := by
  unfold rcv at h
  split at h
  · have e : m.isStr = true := by assumption
    rw [show x = _ from r.1]
    refine ⟨?_, h⟩
    show m.ty = "str"
    unfold Mth.ty
    rw [e]
    rfl
  · have e : m.isStr = false := by assumption
    obtain ⟨⟨xs, hp⟩, h⟩ := h
    obtain ⟨a, vs, rfl, ha, _⟩ := S.lst r (.inr ⟨_, rfl, hp⟩)
    refine ⟨.inl ⟨?_, vs, SqL.of ha⟩, h⟩
    unfold Mth.ty
    rw [e]
    rfl
  · exact h.elim
theorem join_len (s : Tx) : ∀ ts : List Tx, (TL.joinL s ts).length + s.length * (if ts = [] then 0 else 1) = (ts.map List.length).sum + ts.length * s.length
  | [] => by simp [TL.joinL]
  | [x] => by simp [TL.joinL]
  | x :: y :: r => by
    have ih := join_len s (y :: r)
    rw [if_neg (by simp)] at ih ⊢
    show (x ++ (s ++ TL.joinL s (y :: r))).length + s.length * 1 = (x.length + ((y :: r).map List.length).sum) + ((y :: r).length + 1) * s.length
    rw [List.length_append, List.length_append, Nat.add_mul]
    omega
theorem joinT_eq (s : Tx) : ∀ ts : List Tx, joinT s ts = TL.joinL s ts
  | [] => rfl
  | [_] => rfl
  | x :: y :: r => by
    show x ++ (s ++ joinT s (y :: r)) = x ++ (s ++ TL.joinL s (y :: r))
    rw [joinT_eq s (y :: r)]
theorem join_txt (s : Tx) (ts : List Tx) : Txt.join ⟨s.toArray⟩ (ts.map fun t => ⟨t.toArray⟩) = ⟨(joinT s ts).toArray⟩ := by
  refine TL.ext_tl ?_
  rw [TL.join_eq, TL.tl_join, joinT_eq, List.map_map]
  show TL.joinL s (ts.map fun t => t) = TL.joinL s ts
  rw [List.map_id']
theorem mem_joinT {s : Tx} {c : Nat} : ∀ {ts : List Tx}, c ∈ joinT s ts → c ∈ s ∨ ∃ t ∈ ts, c ∈ t
  | [], h => nomatch h
  | [x], h => .inr ⟨x, List.mem_cons_self, h⟩
  | x :: y :: r, h => by
    rcases List.mem_append.mp h with h | h
    · exact .inr ⟨x, List.mem_cons_self, h⟩
    · rcases List.mem_append.mp h with h | h
      · exact .inl h
      · rcases mem_joinT h with h | ⟨t, h1, h2⟩
        · exact .inl h
        · exact .inr ⟨t, List.mem_cons_of_mem _ h1, h2⟩
theorem splitT_eq (c : Nat) : ∀ (x acc : Tx), splitT c acc x = TL.spl [c] 0 acc x
  | [], acc => rfl
  | d :: r, acc => by
    show (if d = c then acc :: splitT c [] r else splitT c (acc ++ [d]) r) = (if ([d] == [c]) = true then acc :: TL.spl [c] 0 [] r else TL.spl [c] 0 (acc ++ [d]) r)
    by_cases e : d = c
    · subst e
      rw [if_pos rfl, if_pos (by simp), splitT_eq d r]
    · rw [if_neg e, if_neg (by simpa using e), splitT_eq c r]
theorem split_txt {x : Tx} {c : Nat} (hc : c < 256) : Txt.split ⟨x.toArray⟩ ⟨#[c]⟩ = (splitT c [] x).map fun t => ⟨t.toArray⟩ := by
  have h : (Txt.split ⟨x.toArray⟩ ⟨#[c]⟩).map TL.tl = TL.spl [c] 0 [] x := TL.split_spl _ _ (by simp [TL.tl]) (TL.kind_ok (by simpa using hc))
  rw [splitT_eq, ← h, List.map_map]
  have e : (fun t : List Nat => (⟨t.toArray⟩ : Str)) ∘ TL.tl = id := by
    funext z
    obtain ⟨a⟩ := z
    simp [TL.tl]
  rw [e, List.map_id]
theorem mem_splitT {c : Nat} : ∀ {x acc : Tx} {t : Tx}, t ∈ splitT c acc x → t.length ≤ acc.length + x.length ∧ ∀ d ∈ t, d ∈ acc ∨ d ∈ x
  | [], acc, t, h => by
    have e : t = acc := by simpa [splitT] using h
    subst e
    exact ⟨Nat.le_add_right _ _, fun d hd => .inl hd⟩
  | d :: r, acc, t, h => by
    unfold splitT at h
    split at h
    · rcases List.mem_cons.mp h with h | h
      · subst h
        exact ⟨Nat.le_add_right _ _, fun d hd => .inl hd⟩
      · obtain ⟨h1, h2⟩ := mem_splitT h
        refine ⟨?_, fun e he => ?_⟩
        · rw [List.length_cons]
          have : t.length ≤ 0 + r.length := h1
          omega
        · rcases h2 e he with z | z
          · cases z
          · exact .inr (List.mem_cons_of_mem _ z)
    · obtain ⟨h1, h2⟩ := mem_splitT h
      refine ⟨?_, fun e he => ?_⟩
      · rw [List.length_append, List.length_singleton] at h1
        rw [List.length_cons]
        omega
      · rcases h2 e he with z | z
        · rcases List.mem_append.mp z with z | z
          · exact .inl z
          · have q : e = d := by simpa using z
            rw [q]
            exact .inr List.mem_cons_self
        · exact .inr (List.mem_cons_of_mem _ z)
theorem repL_strs : ∀ {ts : List Tx}, (∀ t ∈ ts, TxOk t) → RepL w F (ts.map .str) ((ts.map fun t => (⟨t.toArray⟩ : Str)).map V.str)
  | [], _ => rfl
  | t :: r, h => ⟨_, _, rfl, ⟨rfl, h t List.mem_cons_self⟩, repL_strs fun u hu => h u (List.mem_cons_of_mem _ hu)⟩
theorem strip_sub (x y : Str) : ∀ c ∈ (Txt.stripChars x y).cps.toList, c ∈ x.cps.toList := by
  intro c hc
  unfold Txt.stripChars Txt.stripBy at hc
  split at hc
  · exact hc
  · unfold stripped Builtin.Str.strSub at hc
    rw [Array.toList_extract] at hc
    exact List.mem_of_mem_drop (List.mem_of_mem_take hc)
theorem repL_one {x : MV} {v : V} (r : Rep w F x v) : RepL w F [x] [v] := ⟨v, [], rfl, r, rfl⟩
theorem takes_no {X : Cx} : Takes X (fun _ _ _ _ => False) := fun _ _ ⟨_, _, _, _, _, _, _, _, _, _, _, _, _, _, _, _, q⟩ => q.elim
theorem index_one {z : Tx} {d n j : Nat} (h1 : z[n]? = some d) (h2 : z.Nodup) (h : Txt.index0 ⟨z.toArray⟩ ⟨#[d]⟩ = some j) : j = n := by
  unfold Txt.index0 at h
  have hm := List.mem_of_mem_head? h
  have q := (PySem.StrLaws.subAt_one ⟨z.toArray⟩ d j).mp (PySem.StrLaws.occ_spec _ _ _ _ _ j hm)
  have q2 : z[j]? = some d := by simpa using q
  obtain ⟨a1, b1⟩ := List.getElem?_eq_some_iff.mp h1
  obtain ⟨a2, b2⟩ := List.getElem?_eq_some_iff.mp q2
  exact (List.getElem_inj h2).mp (b2.trans b1.symm)
theorem call_meth (m : Mth) (hK : X.K = w.K) {k : Nat} (hr : Room k X.A) (hc : X.calm = true) : MtR X m.id (LMt w (methM m)) := by
  intro pins s σ H x vs v us Q I rx rv h
  obtain ⟨F, G, x', xs, Q', S, r1, r, hm, hq⟩ := h
  unfold methM at hm
  split at hm
  · obtain ⟨y, rfl, ry⟩ := repL1 r
    obtain ⟨ys, hp, hl, hm⟩ := hm
    have e1 : x = .ref _ := r1
    subst e1
    obtain ⟨hf, o, ho, zs, rfl, ra⟩ := S.mu _ _ hp
    refine mt_append pins s σ H _ _ v us Q I rx rv ⟨_, zs, y, rfl, rfl, ho, by rw [← ra.length]; exact hl, ?_⟩
    exact hq F _ _ .non _ (.put hp) (S.put (g := .lst _) hf ⟨_, rfl, ra.append (repL_one ry)⟩) rfl hm
  · have e0 : vs = [] := r
    subst e0
    obtain ⟨ys, z, hp, hl, hm⟩ := hm
    have e1 : x = .ref _ := r1
    subst e1
    obtain ⟨hf, o, ho, zs, rfl, ra⟩ := S.mu _ _ hp
    obtain ⟨b, hb, rb⟩ := ra.get hl
    refine mt_pop pins s σ H _ _ v us Q I rx rv ⟨_, zs, b, rfl, rfl, ho, by rw [← ra.length]; exact hb, ?_⟩
    exact hq F _ _ z _ (.put hp) (S.put (g := .lst _) hf ⟨_, rfl, ra.dropLast⟩) rb hm
  · obtain ⟨y, rfl, ry⟩ := repL1 r
    obtain ⟨ys, z, hp, h0, hl, hm⟩ := hm
    have e1 : x = .ref _ := r1
    have e2 : y = .int _ := ry
    subst e1 e2
    obtain ⟨hf, o, ho, zs, rfl, ra⟩ := S.mu _ _ hp
    obtain ⟨b, hb, rb⟩ := ra.get hl
    have hlt := (List.getElem?_eq_some_iff.mp hb).1
    have hz : zs.length ≤ 16777216 := by
      have q := (I.lstM ho).1
      rw [sizeLine_eq] at q
      exact q
    rename_i i
    refine mt_popAt pins s σ H _ _ v us Q I rx rv ⟨_, zs, i, i.toNat, b, rfl, rfl, ho, by omega, by omega, ?_, hb, ?_⟩
    · have e : i = ((i.toNat : Nat) : Int) := (Int.toNat_of_nonneg h0).symm
      have q : ixN zs.length i = some i.toNat := by
        unfold ixN
        rw [if_pos h0, if_pos (by omega)]
      exact (ixN_seq q).1
    · exact hq F _ _ z _ (.put hp) (S.put (g := .lst _) hf ⟨_, rfl, ra.erase _⟩) rb hm
  · obtain ⟨y, rfl, ry⟩ := repL1 r
    obtain ⟨e1, o1⟩ := r1
    subst e1
    rename_i sp _
    rcases rdd_of hm with ⟨ys, il, ts, ht, hl, hm⟩ | ⟨nl, nr, hm⟩
    · obtain ⟨a, ws, rfl, ha, ra⟩ := S.lst ry il
      obtain ⟨e2, o2⟩ := vals_str ra ht
      rw [e2] at ha
      refine mt_join pins s σ H _ _ v us Q I rx rv ⟨_, a, _, rfl, rfl, .inl (SqL.of ha), ?_, ?_⟩
      · have q := join_len sp ts
        rw [← joinT_eq] at q
        rw [List.map_map, List.length_map, str_len]
        have e3 : ((fun z : Str => z.length) ∘ fun t : Tx => (⟨t.toArray⟩ : Str)) = List.length := by
          funext t
          exact str_len
        rw [e3, ← q]
        rw [sizeLine_eq] at hl
        refine Nat.le_trans ?_ hl
        split <;> omega
      · rw [join_txt]
        refine hq F G H (.str _) _ .refl S ⟨rfl, by omega, fun c hc => ?_⟩ hm
        rcases mem_joinT hc with z | ⟨t, z1, z2⟩
        · exact o1.2 c z
        · exact (o2 t z1).2 c z2
    · split at hm
      · exact (nl _ (.inl rfl)).elim
      · exact hm.elim
  · obtain ⟨y, rfl, ry⟩ := repL1 r
    obtain ⟨e1, o1⟩ := r1
    obtain ⟨e2, o2⟩ := ry
    subst e1 e2
    obtain ⟨h1, h2, hm⟩ := hm
    refine mt_split pins s σ H _ _ v us Q I rx rv ⟨_, _, rfl, rfl, rfl, by rw [str_len]; exact h2, ?_⟩
    rw [show (⟨[_].toArray⟩ : Str) = ⟨#[_]⟩ from rfl, split_txt h1]
    refine newL_ok S (repL_strs fun t ht => ?_) hm hq
    obtain ⟨q1, q2⟩ := mem_splitT ht
    refine o1.sub (by have : t.length ≤ 0 + _ := q1; omega) fun d hd => ?_
    rcases q2 d hd with z | z
    · cases z
    · exact z
  · obtain ⟨y, rfl, ry⟩ := repL1 r
    obtain ⟨e1, o1⟩ := r1
    obtain ⟨e2, o2⟩ := ry
    subst e1 e2
    rename_i zz cc
    refine mt_stripChars pins s σ H _ _ v us Q I rx rv ⟨_, _, rfl, rfl, by rw [str_len]; exact o1.1, ?_⟩
    refine hq F G H (.str _) _ .refl S ⟨by rw [Array.toArray_toList], o1.sub ?_ fun c hc => ?_⟩ hm
    · have q := PyProof.Rows.len_stripChars ⟨zz.toArray⟩ ⟨#[cc]⟩
      rw [str_len] at q
      simpa [Str.length] using q
    · have q := strip_sub _ _ c hc
      simpa using q
  · obtain ⟨y, rfl, ry⟩ := repL1 r
    obtain ⟨e1, o1⟩ := r1
    obtain ⟨e2, o2⟩ := ry
    subst e1 e2
    obtain ⟨n, h1, h2, hm⟩ := hm
    rename_i z d
    refine mt_indexX (W := fun _ _ _ _ => False) hc takes_no pins s σ H _ _ v us Q I rx rv ⟨_, _, rfl, rfl, fun j hj => ?_, fun hj => ?_⟩
    · have e := index_one h1 h2 hj
      subst e
      exact hq F G H (.int _) _ .refl S rfl hm
    · have q := PySem.StrLaws.found_one ⟨z.toArray⟩ d
      unfold Txt.index0 at hj
      have e : Builtin.Str.occurrences ⟨z.toArray⟩ ⟨#[d]⟩ 0 (⟨z.toArray⟩ : Str).length 1 = [] := List.head?_eq_none_iff.mp hj
      rw [e, decide_eq_true (by simpa using List.mem_of_getElem? h1)] at q
      cases q
  · exact hm.elim
end
end MP

set_option Elab.async false
set_option linter.all false
set_option maxRecDepth 100000
set_option maxHeartbeats 1000000
namespace MP
open PySem PySem.Spec PyProof.Rows L2
section
variable {w : Wd} {X : Cx} {F : Hp} {G : MH} {H : Hp}
/-! ## targets -/
def LG (w : Wd) (g : MG) : TG := fun v σ H Q => ∃ F G x σ' Q', Sim w F G H ∧ RepS w F σ' σ ∧ Rep w F x v ∧ asgM g x σ' G Q' ∧ OkN w F G H Q' Q
theorem pg_one {i : Nat} {x : Str} {pos : Pos} (hN : X.N.Nodup) (hi : X.N[i]? = some x) (hx : Loc X.env.scope x) (hf : X.fn x = true ∨ X.env.scope.names.lookup x = some .local) : PG X (.Name x pos) (LG w (.nm i)) := by
  have P : PG X (.Name x pos) (gName i) := pg_name hN hi hx hf
  refine ⟨fun pins s σ H v u Q I r h => P.run pins s σ H v u Q I r ?_⟩
  obtain ⟨F, G, y, σ', Q', S, rs, ry, hm, hq⟩ := h
  have hm : Q' (stv σ' i (some y)) G := hm
  rw [stv_eq] at hm
  exact hq F G H _ _ .refl S (rs.set i ry) hm
/-- names, one after another -/
def gNms : List Nat → TGs
  | [] => gNil
  | i :: r => gCons (gName i) (gNms r)
def NmsOk (X : Cx) : List Nat → List Expr → Prop
  | [], [] => True
  | i :: is, .Name x _ :: es => X.N[i]? = some x ∧ Loc X.env.scope x ∧ (X.fn x = true ∨ X.env.scope.names.lookup x = some .local) ∧ NmsOk X is es
  | _, _ => False
theorem pg_nms (hN : X.N.Nodup) : ∀ {is : List Nat} {es : List Expr}, NmsOk X is es → PGs X es (gNms is) ∧ (assignEach es X.env).length = is.length ∧ (assignEach es X.env).findIdx? (·.1) = none
  | [], [], _ => ⟨pgs_nil, rfl, rfl⟩
  | i :: is, .Name x p :: es, ⟨h1, h2, h3, h4⟩ => by
    obtain ⟨q1, q2, q3⟩ := pg_nms hN h4
    refine ⟨pgs_cons (pg_name hN h1 h2 h3) q1, ?_, ?_⟩
    · show ((false, assign (.Name x p) X.env) :: assignEach es X.env).length = _
      rw [List.length_cons, q2]
      rfl
    · show List.findIdx? (·.1) ((false, assign (.Name x p) X.env) :: assignEach es X.env) = none
      rw [List.findIdx?_cons, q3]
      rfl
  | [], e :: es, h => by cases e <;> exact h.elim
  | _ :: _, [], h => h.elim
  | _ :: _, .BoolOp .. :: _, h => h.elim
  | _ :: _, .NamedExpr .. :: _, h => h.elim
  | _ :: _, .BinOp .. :: _, h => h.elim
  | _ :: _, .UnaryOp .. :: _, h => h.elim
  | _ :: _, .Lambda .. :: _, h => h.elim
  | _ :: _, .IfExp .. :: _, h => h.elim
  | _ :: _, .Dict .. :: _, h => h.elim
  | _ :: _, .Set .. :: _, h => h.elim
  | _ :: _, .ListComp .. :: _, h => h.elim
  | _ :: _, .SetComp .. :: _, h => h.elim
  | _ :: _, .DictComp .. :: _, h => h.elim
  | _ :: _, .GeneratorExp .. :: _, h => h.elim
  | _ :: _, .Await .. :: _, h => h.elim
  | _ :: _, .Yield .. :: _, h => h.elim
  | _ :: _, .YieldFrom .. :: _, h => h.elim
  | _ :: _, .Compare .. :: _, h => h.elim
  | _ :: _, .Call .. :: _, h => h.elim
  | _ :: _, .FormattedValue .. :: _, h => h.elim
  | _ :: _, .JoinedStr .. :: _, h => h.elim
  | _ :: _, .Constant .. :: _, h => h.elim
  | _ :: _, .Attribute .. :: _, h => h.elim
  | _ :: _, .Subscript .. :: _, h => h.elim
  | _ :: _, .Starred .. :: _, h => h.elim
  | _ :: _, .List .. :: _, h => h.elim
  | _ :: _, .Tuple .. :: _, h => h.elim
  | _ :: _, .Slice .. :: _, h => h.elim
theorem gNms_of {Q : L2.St → Hp → Prop} : ∀ {is : List Nat} {xs : List MV} {vs : List V} {σ' : MSt} {σ : L2.St}, xs.length = is.length → RepL w F xs vs → RepS w F σ' σ →
    (∀ σ2, RepS w F ((is.zip xs).foldl (fun s p => stv s p.1 (some p.2)) σ') σ2 → Q σ2 H) → gNms is vs σ H Q
  | [], [], vs, σ', σ, _, r, rs, k => ⟨r, k σ rs⟩
  | [], _ :: _, _, _, _, h, _, _, _ => nomatch h
  | _ :: _, [], _, _, _, h, _, _, _ => nomatch h
  | i :: is, x :: xs, vs, σ', σ, h, ⟨y, r, e, h1, h2⟩, rs, k => by
    refine ⟨y, r, e, ?_⟩
    refine gNms_of (σ' := stv σ' i (some x)) (Nat.succ.inj h) h2 ?_ k
    rw [stv_eq]
    exact rs.set i h1
theorem pg_many (hK : X.K = w.K) (hc : X.calm = true) (hN : X.N.Nodup) {is : List Nat} {es : List Expr} {k : Nat} {pos : Pos} (h : NmsOk X is es) : PG X (.Tuple es k pos) (LG w (.tup is)) := by
  obtain ⟨h1, h2, h3⟩ := pg_nms hN h
  have P : PG X (.Tuple es k pos) (gTup X.K is.length (gNms is)) := pg_tup hc h1 h2 h3
  refine ⟨fun pins s σ H v u Q I r h => P.run pins s σ H v u Q I r ?_⟩
  obtain ⟨F, G, y, σ', Q', S, rs, ry, hm, hq⟩ := h
  unfold asgM at hm
  simp only at hm
  split at hm
  · obtain ⟨a, ys, rfl, ha, ra⟩ := S.tup ry
    refine ⟨a, ys, rfl, by rw [hK]; exact ha, by rw [← ra.length]; exact hm.1, ?_⟩
    exact gNms_of hm.1 ra rs fun σ2 r2 => hq F G H _ _ .refl S r2 hm.2
  · exact hm.elim
/-! ## what is walked -/
structure Wk (w : Wd) (F0 : Hp) (J : It) (xs : List MV) (inv : MH → Prop) : Prop where
  len : xs.length ≤ sizeLine
  go : ∀ F G H i, Ext F0 F → Sim w F G H → inv G → i < xs.length → J.go i H
  stop : ∀ F G H i, Ext F0 F → Sim w F G H → inv G → xs.length ≤ i → J.stop i H
  yld : ∀ F G H i v H', Ext F0 F → Sim w F G H → inv G → i < xs.length → J.yld i H v H' → ∃ x F', xs[i]? = some x ∧ Fut F G H F' G H' ∧ Sim w F' G H' ∧ Rep w F' x v
def OkI (w : Wd) (F : Hp) (G : MH) (H : Hp) (Q' : List MV → (MH → Prop) → MH → Prop) (R : It → Hp → Prop) : Prop := ∀ F' G' H' xs inv J, Fut F G H F' G' H' → Sim w F' G' H' → Wk w F' J xs inv → Q' xs inv G' → R J H'
abbrev MI0 := MSt → MH → (List MV → (MH → Prop) → MH → Prop) → MW → Prop
def LI (w : Wd) (W : WX) (m : MI0) : TI := fun σ H R => ∃ F G σ' Q' W', Sim w F G H ∧ RepS w F σ' σ ∧ m σ' G Q' W' ∧ OkI w F G H Q' R ∧ OkW w F G H W' W
/-- a list, a tuple, a text, whichever comes -/
def IterV (K : PySem.W.Frag) (x : V) (H : Hp) (R : It → Hp → Prop) : Prop :=
  (∃ a xs, x = .ref a ∧ SqL K H a xs ∧ (xs.length ≤ sizeLine → R (Itl K a) H)) ∨ (∃ a xs, x = .ref a ∧ SqT K H a xs ∧ (xs.length ≤ sizeLine → R (Itt K a) H)) ∨ ∃ z, x = .str z ∧ R (Its z) H
theorem pi_val {tg e : Expr} {te : TE} (he : PE X e te) : PI X tg e (fun σ H R => te σ H fun x H1 => IterV X.K x H1 R) := by
  refine ⟨fun pins s σ H R I h => thn (he.run pins s σ H _ I h) fun v s1 ⟨x, H1, I1, r1, q1⟩ => ?_⟩
  have new : ∀ b ∈ [s1.heap.objs.size], FpOk X pins H1 b := fun b hb => by
    rw [show b = s1.heap.objs.size by simpa using hb]
    exact I1.fpOk (Nat.le_refl _) I1.fresh
  rcases q1 with ⟨a, xs, rfl, hx, q⟩ | ⟨a, xs, rfl, hx, q⟩ | ⟨z, rfl, q⟩
  · obtain rfl : v = .ref a := r1
    obtain ⟨its, _, pl, hz⟩ := I1.list hx
    exact wpAny_pyIter_list pl.isList ⟨_, _, _, _, H1, rfl, I1.kept (t' := s1.toks) (fun b o q => Heap.get?_push_of_some _ q), turn_list a _, ⟨_, Heap.get?_push_size _ rfl, rfl, rfl⟩, new, q hz⟩
  · obtain rfl : v = .ref a := r1
    obtain ⟨its, _, pl, hz⟩ := I1.tuple hx
    exact wpAny_pyIter_tuple (show s1.heap.IsTuple a its.toArray from pl) ⟨_, _, _, _, H1, rfl, I1.kept (t' := s1.toks) (fun b o q => Heap.get?_push_of_some _ q), turn_tuple a _, ⟨_, Heap.get?_push_size _ rfl, rfl, rfl⟩, new, q hz⟩
  · obtain ⟨t, rfl⟩ := r1
    by_cases hz : z.cps.all (· < 128) = true
    · exact wpAny_pyIter_ascii hz (pi_one (tk := s1.toks) I1 _ (turn_str _ z t _ (.inl rfl)) ⟨_, Heap.get?_push_size _ rfl, rfl, rfl⟩ q)
    · exact wpAny_pyIter_wide (by simpa using hz) (pi_one (tk := s1.toks) I1 _ (turn_str _ z t _ (.inr rfl)) ⟨_, Heap.get?_push_size _ rfl, rfl, rfl⟩ q)
theorem wk_list {F0 : Hp} {a : Addr} {xs : List MV} {inv : MH → Prop} (h : ∀ F G H, Ext F0 F → Sim w F G H → inv G → ∃ ys, SqL w.K H a ys ∧ RepL w F xs ys) (hz : xs.length ≤ sizeLine) : Wk w F0 (Itl w.K a) xs inv where
  len := hz
  go := fun F G H i e S hi hl => by
    obtain ⟨ys, h1, h2⟩ := h F G H e S hi
    obtain ⟨v, hv, _⟩ := h2.get (List.getElem?_eq_getElem hl)
    exact ⟨ys, v, h1, hv⟩
  stop := fun F G H i e S hi hl => by
    obtain ⟨ys, h1, h2⟩ := h F G H e S hi
    exact ⟨ys, h1, by rw [← h2.length]; exact hl⟩
  yld := fun F G H i v H' e S hi hl ⟨e1, e2⟩ => by
    obtain ⟨ys, h1, h2⟩ := h F G H e S hi
    obtain ⟨x, q1, q2⟩ := h2.get' (e2 ys h1)
    subst e1
    exact ⟨x, F, q1, .refl, S, q2⟩
theorem wk_tup {F0 : Hp} {a : Addr} {xs : List MV} {inv : MH → Prop} (h : ∀ F G H, Ext F0 F → Sim w F G H → inv G → ∃ ys, SqT w.K H a ys ∧ RepL w F xs ys) (hz : xs.length ≤ sizeLine) : Wk w F0 (Itt w.K a) xs inv where
  len := hz
  go := fun F G H i e S hi hl => by
    obtain ⟨ys, h1, h2⟩ := h F G H e S hi
    obtain ⟨v, hv, _⟩ := h2.get (List.getElem?_eq_getElem hl)
    exact ⟨ys, v, h1, hv⟩
  stop := fun F G H i e S hi hl => by
    obtain ⟨ys, h1, h2⟩ := h F G H e S hi
    exact ⟨ys, h1, by rw [← h2.length]; exact hl⟩
  yld := fun F G H i v H' e S hi hl ⟨e1, e2⟩ => by
    obtain ⟨ys, h1, h2⟩ := h F G H e S hi
    obtain ⟨x, q1, q2⟩ := h2.get' (e2 ys h1)
    subst e1
    exact ⟨x, F, q1, .refl, S, q2⟩
theorem wk_str {F0 : Hp} {z : Tx} {inv : MH → Prop} (h : TxOk z) : Wk w F0 (Its ⟨z.toArray⟩) (z.map fun c => .str [c]) inv where
  len := by rw [List.length_map]; exact h.1
  go := fun F G H i e S hi hl => by
    show i < (⟨z.toArray⟩ : Str).cps.size
    simpa using hl
  stop := fun F G H i e S hi hl => by
    show (⟨z.toArray⟩ : Str).cps.size ≤ i
    simpa using hl
  yld := fun F G H i v H' e S hi hl ⟨e1, c, e2, e3⟩ => by
    subst e1 e3
    have q : z[i]? = some c := by simpa using e2
    exact ⟨.str [c], F, by rw [List.getElem?_map, q]; rfl, .refl, S, rfl, wide_one h (List.mem_of_getElem? q)⟩
theorem wk_range {F0 : Hp} {lo : Int} {n : Nat} {inv : MH → Prop} (hz : n ≤ 16777216) : Wk w F0 (Itr lo n) ((List.range n).map fun (i : Nat) => .int (lo + i)) inv where
  len := by rw [List.length_map, List.length_range, sizeLine_eq]; exact hz
  go := fun F G H i e S hi hl => by
    show i < n
    simpa using hl
  stop := fun F G H i e S hi hl => by
    show n ≤ i
    simpa using hl
  yld := fun F G H i v H' e S hi hl ⟨e1, e2⟩ => by
    subst e1 e2
    have hl : i < n := by simpa using hl
    exact ⟨.int (lo + i), F, by rw [List.getElem?_map, List.getElem?_range hl]; rfl, .refl, S, rfl⟩
theorem val_iter {x' : MV} {x : V} {k : List MV → (MH → Prop) → Prop} {R : It → Hp → Prop} (S : Sim w F G H) (r : Rep w F x' x) (h : srcM .val [x'] G k)
    (hk : ∀ xs inv J, Wk w F J xs inv → k xs inv → R J H) : IterV w.K x H R := by
  unfold srcM at h
  simp only at h
  split at h
  · have r0 := r
    obtain ⟨a, ys, rfl, ha, ra⟩ := S.lst r (.inl rfl)
    refine .inl ⟨a, ys, rfl, SqL.of ha, fun hz => hk _ _ _ (wk_list (fun F' G' H' e S' _ => ?_) (by rw [ra.length]; exact hz)) h⟩
    obtain ⟨b, zs, q1, q2, q3⟩ := S'.lst (r0.ext e) (.inl rfl)
    cases q1
    exact ⟨zs, SqL.of q2, q3⟩
  · have r0 := r
    obtain ⟨a, ys, rfl, ha, ra⟩ := S.tup r
    refine .inr (.inl ⟨a, ys, rfl, ha, fun hz => hk _ _ _ (wk_tup (fun F' G' H' e S' _ => ?_) (by rw [ra.length]; exact hz)) h⟩)
    obtain ⟨b, zs, q1, q2, q3⟩ := S'.tup (r0.ext e)
    cases q1
    exact ⟨zs, q2, q3⟩
  · have r0 := r
    obtain ⟨a, ys, rfl, ha, ra⟩ := S.klst r
    refine .inl ⟨a, ys, rfl, ha, fun hz => hk _ _ _ (wk_list (fun F' G' H' e S' _ => ?_) (by rw [ra.length]; exact hz)) h⟩
    obtain ⟨b, zs, q1, q2, q3⟩ := S'.klst (r0.ext e)
    cases q1
    exact ⟨zs, q2, q3⟩
  · obtain ⟨e1, o1⟩ := r
    subst e1
    exact .inr (.inr ⟨_, rfl, hk _ _ _ (wk_str o1) h⟩)
  · obtain ⟨xs, hp, h⟩ := h
    have e1 : x = .ref _ := r
    subst e1
    obtain ⟨a, ys, e2, ha, ra⟩ := S.lst r (.inr ⟨_, rfl, hp⟩)
    cases e2
    refine .inl ⟨_, ys, rfl, SqL.of ha, fun hz => hk _ _ _ (wk_list (fun F' G' H' e S' hi => ?_) (by rw [ra.length]; exact hz)) h⟩
    obtain ⟨b, zs, q1, q2, q3⟩ := S'.lst (v' := .ref _) (v := .ref _) rfl (.inr ⟨_, rfl, hi⟩)
    cases q1
    exact ⟨zs, SqL.of q2, q3⟩
  · exact h.elim
end
end MP

set_option Elab.async false
set_option linter.all false
set_option maxRecDepth 100000
set_option maxHeartbeats 1000000
namespace MP
open PySem PySem.Spec PyProof.Rows L2
section
variable {w : Wd} {X : Cx} {F : Hp} {G : MH} {H : Hp} {W : WX}
/-! ## how parts are put together -/
theorem le_op {ma mb : ME0} {f : MV → MV → MH → MQ → Prop} {σ : L2.St} {Q : VK} (h : LE w W (fun σ G Q W => ma σ G (fun x G1 => mb σ G1 (fun y G2 => f x y G2 Q) W) W) σ H Q) : tOp (LR2 w f) (LE w W ma) (LE w W mb) σ H Q := by
  obtain ⟨F, G, σ', Q', W', S, rs, hm, hq, hw⟩ := h
  refine ⟨F, G, σ', _, W', S, rs, hm, fun F1 G1 H1 x' x e1 S1 r1 h1 => ?_, hw⟩
  refine ⟨F1, G1, σ', _, W', S1, rs.ext e1.1, h1, fun F2 G2 H2 y' y e2 S2 r2 h2 => ?_, hw.ext e1⟩
  exact ⟨F2, G2, x', y', Q', S2, r1.ext e2.1, r2, h2, hq.ext (e1.trans e2)⟩
theorem le_chain {ma mb mc : ME0} {f g : MV → MV → MH → MQ → Prop} {σ : L2.St} {Q : VK}
    (h : LE w W (fun σ G Q W => ma σ G (fun x G1 => mb σ G1 (fun y G2 => f x y G2 fun r G3 => match r with
      | .bl t => Br t (mc σ G3 (fun z G4 => g y z G4 Q) W) (Q (.bl false) G3)
      | _ => False) W) W) σ H Q) : tChain (LR2 w f) (LR2 w g) (LE w W ma) (LE w W mb) (LE w W mc) σ H Q := by
  obtain ⟨F, G, σ', Q', W', S, rs, hm, hq, hw⟩ := h
  refine ⟨F, G, σ', _, W', S, rs, hm, fun F1 G1 H1 x' x e1 S1 r1 h1 => ?_, hw⟩
  refine ⟨F1, G1, σ', _, W', S1, rs.ext e1.1, h1, fun F2 G2 H2 y' y e2 S2 r2 h2 => ?_, hw.ext e1⟩
  refine ⟨F2, G2, x', y', _, S2, r1.ext e2.1, r2, h2, fun F3 G3 H3 z' z e3 S3 r3 h3 => ?_⟩
  split at h3
  · rename_i t
    refine ⟨t, r3, ?_⟩
    have e13 := e1.trans (e2.trans e3)
    cases t with
    | false =>
      rw [if_neg Bool.false_ne_true]
      exact hq F3 G3 H3 (.bl false) _ e13 S3 rfl h3
    | true =>
      rw [if_pos rfl]
      refine ⟨F3, G3, σ', _, W', S3, rs.ext e13.1, h3, fun F4 G4 H4 u' u e4 S4 r4 h4 => ?_, hw.ext e13⟩
      exact ⟨F4, G4, y', u', Q', S4, r2.ext (e3.trans e4).1, r4, h4, hq.ext (e13.trans e4)⟩
  · exact h3.elim
theorem le_if {mc : MT0} {ma mb : ME0} {σ : L2.St} {Q : VK} (h : LE w W (fun σ G Q W => mc σ G (fun t G1 => Br t (ma σ G1 Q W) (mb σ G1 Q W)) W) σ H Q) : tIf (LT w W mc) (LE w W ma) (LE w W mb) σ H Q := by
  obtain ⟨F, G, σ', Q', W', S, rs, hm, hq, hw⟩ := h
  refine ⟨F, G, σ', _, W', S, rs, hm, fun F1 G1 H1 t e1 S1 h1 => ?_, hw⟩
  cases t with
  | true =>
    rw [if_pos rfl]
    exact ⟨F1, G1, σ', Q', W', S1, rs.ext e1.1, h1, hq.ext e1, hw.ext e1⟩
  | false =>
    rw [if_neg Bool.false_ne_true]
    exact ⟨F1, G1, σ', Q', W', S1, rs.ext e1.1, h1, hq.ext e1, hw.ext e1⟩
theorem le_and {ma mb : ME0} {σ : L2.St} {Q : VK} (h : LE w W (fun σ G Q W => ma σ G (fun x G1 => match x with
    | .bl t => Br t (mb σ G1 Q W) (Q (.bl false) G1)
    | _ => False) W) σ H Q) : tAndV (LE w W ma) (LE w W mb) σ H Q := by
  obtain ⟨F, G, σ', Q', W', S, rs, hm, hq, hw⟩ := h
  refine ⟨F, G, σ', _, W', S, rs, hm, fun F1 G1 H1 x' x e1 S1 r1 h1 => ?_, hw⟩
  dsimp only at h1
  split at h1
  · rename_i t
    refine ⟨t, r1, ?_⟩
    cases t with
    | true =>
      rw [if_pos rfl]
      exact ⟨F1, G1, σ', Q', W', S1, rs.ext e1.1, h1, hq.ext e1, hw.ext e1⟩
    | false =>
      rw [if_neg Bool.false_ne_true]
      exact hq F1 G1 H1 (.bl false) _ e1 S1 rfl h1
  · exact h1.elim
theorem le_or {ma mb : ME0} {σ : L2.St} {Q : VK} (h : LE w W (fun σ G Q W => ma σ G (fun x G1 => match x with
    | .bl t => Br t (Q (.bl true) G1) (mb σ G1 Q W)
    | _ => False) W) σ H Q) : tOrV (LE w W ma) (LE w W mb) σ H Q := by
  obtain ⟨F, G, σ', Q', W', S, rs, hm, hq, hw⟩ := h
  refine ⟨F, G, σ', _, W', S, rs, hm, fun F1 G1 H1 x' x e1 S1 r1 h1 => ?_, hw⟩
  dsimp only at h1
  split at h1
  · rename_i t
    refine ⟨t, r1, ?_⟩
    cases t with
    | true =>
      rw [if_pos rfl]
      exact hq F1 G1 H1 (.bl true) _ e1 S1 rfl h1
    | false =>
      rw [if_neg Bool.false_ne_true]
      exact ⟨F1, G1, σ', Q', W', S1, rs.ext e1.1, h1, hq.ext e1, hw.ext e1⟩
  · exact h1.elim
theorem le_not {ma : ME0} {σ : L2.St} {Q : VK} (h : LE w W (fun σ G Q W => ma σ G (fun x G1 => match x with
    | .bl t => Q (.bl (!t)) G1
    | _ => False) W) σ H Q) : tNotV (LE w W ma) σ H Q := by
  obtain ⟨F, G, σ', Q', W', S, rs, hm, hq, hw⟩ := h
  refine ⟨F, G, σ', _, W', S, rs, hm, fun F1 G1 H1 x' x e1 S1 r1 h1 => ?_, hw⟩
  dsimp only at h1
  split at h1
  · rename_i t
    exact ⟨t, r1, hq F1 G1 H1 (.bl (!t)) _ e1 S1 rfl h1⟩
  · exact h1.elim
theorem le_neg {ma : ME0} {σ : L2.St} {Q : VK} (h : LE w W (fun σ G Q W => ma σ G (fun x G1 => match x with
    | .int i => Q (.int (-i)) G1
    | _ => False) W) σ H Q) : tUn (rU fun i => .int (-i)) (LE w W ma) σ H Q := by
  obtain ⟨F, G, σ', Q', W', S, rs, hm, hq, hw⟩ := h
  refine ⟨F, G, σ', _, W', S, rs, hm, fun F1 G1 H1 x' x e1 S1 r1 h1 => ?_, hw⟩
  dsimp only at h1
  split at h1
  · rename_i i
    exact ⟨i, r1, hq F1 G1 H1 (.int (-i)) _ e1 S1 rfl h1⟩
  · exact h1.elim
/-- tests -/
theorem lt_and {ma mb : MT0} {σ : L2.St} {Q : Bool → Hp → Prop} (h : LT w W (fun σ G Q W => ma σ G (fun t G1 => Br t (mb σ G1 Q W) (Q false G1)) W) σ H Q) : tAnd (LT w W ma) (LT w W mb) σ H Q := by
  obtain ⟨F, G, σ', Q', W', S, rs, hm, hq, hw⟩ := h
  refine ⟨F, G, σ', _, W', S, rs, hm, fun F1 G1 H1 t e1 S1 h1 => ?_, hw⟩
  cases t with
  | true =>
    rw [if_pos rfl]
    exact ⟨F1, G1, σ', Q', W', S1, rs.ext e1.1, h1, hq.ext e1, hw.ext e1⟩
  | false =>
    rw [if_neg Bool.false_ne_true]
    exact hq F1 G1 H1 false e1 S1 h1
theorem lt_or {ma mb : MT0} {σ : L2.St} {Q : Bool → Hp → Prop} (h : LT w W (fun σ G Q W => ma σ G (fun t G1 => Br t (Q true G1) (mb σ G1 Q W)) W) σ H Q) : tOr (LT w W ma) (LT w W mb) σ H Q := by
  obtain ⟨F, G, σ', Q', W', S, rs, hm, hq, hw⟩ := h
  refine ⟨F, G, σ', _, W', S, rs, hm, fun F1 G1 H1 t e1 S1 h1 => ?_, hw⟩
  cases t with
  | true =>
    rw [if_pos rfl]
    exact hq F1 G1 H1 true e1 S1 h1
  | false =>
    rw [if_neg Bool.false_ne_true]
    exact ⟨F1, G1, σ', Q', W', S1, rs.ext e1.1, h1, hq.ext e1, hw.ext e1⟩
theorem lt_not {ma : MT0} {σ : L2.St} {Q : Bool → Hp → Prop} (h : LT w W (fun σ G Q W => ma σ G (fun t G1 => Q (!t) G1) W) σ H Q) : tNot (LT w W ma) σ H Q := by
  obtain ⟨F, G, σ', Q', W', S, rs, hm, hq, hw⟩ := h
  exact ⟨F, G, σ', _, W', S, rs, hm, fun F1 G1 H1 t e1 S1 h1 => hq F1 G1 H1 (!t) e1 S1 h1, hw⟩
theorem lt_tru (hK : X.K = w.K) {ma : ME0} {σ : L2.St} {Q : Bool → Hp → Prop} (h : LT w W (tt0 ma) σ H Q) : LE w W ma σ H fun x H' => ∃ k, TruV X.K x H' k ∧ Q k H' := by
  obtain ⟨F, G, σ', Q', W', S, rs, hm, hq, hw⟩ := h
  refine ⟨F, G, σ', _, W', S, rs, hm, fun F1 G1 H1 x' x e1 S1 r1 h1 => ?_, hw⟩
  obtain ⟨b, q1, q2⟩ := truM_ok S1 r1 h1
  exact ⟨b, by rw [hK]; exact q1, hq F1 G1 H1 b e1 S1 q2⟩
theorem cmpM_bl {op : CmpOp} {x y : MV} {G : MH} {Q : MQ} (h : cmpM op x y G Q) : cmpM op x y G (fun r G1 => (∃ b, r = .bl b) ∧ Q r G1) := by
  have rd : ∀ {v : MV} {k k' : MV → Prop}, rdd G v k → (∀ z, k z → k' z) → rdd G v k' := by
    intro v k k' h1 h2
    cases v with
    | ref p =>
      obtain ⟨xs, q1, q2⟩ := h1
      exact ⟨xs, q1, h2 _ q2⟩
    | _ => exact h2 _ h1
  have hs : ∀ {x y : MV} {k k' : Bool → Prop}, hasM x y G k → (∀ b, k b → k' b) → hasM x y G k' := by
    intro x y k k' h1 h2
    refine rd h1 fun z hz => ?_
    split at hz
    · split at hz
      · exact h2 _ hz
      · exact hz.elim
    · exact ⟨hz.1, hz.2.1, h2 _ hz.2.2⟩
    · exact hz.elim
  unfold cmpM at h
  split at h
  · exact ⟨⟨_, rfl⟩, h⟩
  · exact ⟨⟨_, rfl⟩, h⟩
  · exact ⟨⟨_, rfl⟩, h⟩
  · exact ⟨⟨_, rfl⟩, h⟩
  · exact rd (k' := fun x => rdd _ _ fun y => plain 60 x = true ∧ plain 60 y = true ∧ (∃ b, MV.bl (eqM x y) = .bl b) ∧ Q (.bl (eqM x y)) _) h fun z hz => rd hz fun u hu => ⟨hu.1, hu.2.1, ⟨_, rfl⟩, hu.2.2⟩
  · exact rd (k' := fun x => rdd _ _ fun y => plain 60 x = true ∧ plain 60 y = true ∧ (∃ b, MV.bl (!eqM x y) = .bl b) ∧ Q (.bl (!eqM x y)) _) h fun z hz => rd hz fun u hu => ⟨hu.1, hu.2.1, ⟨_, rfl⟩, hu.2.2⟩
  · exact hs (k' := fun b => (∃ c, MV.bl b = .bl c) ∧ Q (.bl b) _) h fun b hb => ⟨⟨_, rfl⟩, hb⟩
  · exact hs (k' := fun b => (∃ c, MV.bl (!b) = .bl c) ∧ Q (.bl (!b)) _) h fun b hb => ⟨⟨_, rfl⟩, hb⟩
  · exact ⟨⟨_, rfl⟩, h⟩
  · exact ⟨⟨_, rfl⟩, h⟩
  · exact h.elim
theorem lt_cmp {ma mb : ME0} {op : CmpOp} {σ : L2.St} {Q : Bool → Hp → Prop} (h : LT w W (tt0 fun σ G Q W => ma σ G (fun x G1 => mb σ G1 (fun y G2 => cmpM op x y G2 Q) W) W) σ H Q) :
    tTest (tOp (LR2 w (cmpM op)) (LE w W ma) (LE w W mb)) σ H Q := by
  obtain ⟨F, G, σ', Q', W', S, rs, hm, hq, hw⟩ := h
  refine ⟨F, G, σ', _, W', S, rs, hm, fun F1 G1 H1 x' x e1 S1 r1 h1 => ?_, hw⟩
  refine ⟨F1, G1, σ', _, W', S1, rs.ext e1.1, h1, fun F2 G2 H2 y' y e2 S2 r2 h2 => ?_, hw.ext e1⟩
  refine ⟨F2, G2, x', y', _, S2, r1.ext e2.1, r2, cmpM_bl h2, fun F3 G3 H3 z' z e3 S3 r3 h3 => ?_⟩
  obtain ⟨⟨b, rfl⟩, h3⟩ := h3
  exact ⟨b, r3, hq F3 G3 H3 b (e1.trans (e2.trans e3)) S3 h3⟩
theorem lt_chain {ma mb mc : ME0} {o1 o2 : CmpOp} {σ : L2.St} {Q : Bool → Hp → Prop}
    (h : LT w W (tt0 fun σ G Q W => ma σ G (fun x G1 => mb σ G1 (fun y G2 => cmpM o1 x y G2 fun r G3 => match r with
      | .bl t => Br t (mc σ G3 (fun z G4 => cmpM o2 y z G4 Q) W) (Q (.bl false) G3)
      | _ => False) W) W) σ H Q) : tTest (tChain (LR2 w (cmpM o1)) (LR2 w (cmpM o2)) (LE w W ma) (LE w W mb) (LE w W mc)) σ H Q := by
  obtain ⟨F, G, σ', Q', W', S, rs, hm, hq, hw⟩ := h
  refine ⟨F, G, σ', _, W', S, rs, hm, fun F1 G1 H1 x' x e1 S1 r1 h1 => ?_, hw⟩
  refine ⟨F1, G1, σ', _, W', S1, rs.ext e1.1, h1, fun F2 G2 H2 y' y e2 S2 r2 h2 => ?_, hw.ext e1⟩
  refine ⟨F2, G2, x', y', _, S2, r1.ext e2.1, r2, h2, fun F3 G3 H3 z' z e3 S3 r3 h3 => ?_⟩
  dsimp only at h3
  split at h3
  · rename_i t
    refine ⟨t, r3, ?_⟩
    have e13 := e1.trans (e2.trans e3)
    cases t with
    | false =>
      rw [if_neg Bool.false_ne_true]
      exact ⟨false, rfl, hq F3 G3 H3 false e13 S3 h3⟩
    | true =>
      rw [if_pos rfl]
      refine ⟨F3, G3, σ', _, W', S3, rs.ext e13.1, h3, fun F4 G4 H4 u' u e4 S4 r4 h4 => ?_, hw.ext e13⟩
      refine ⟨F4, G4, y', u', _, S4, r2.ext (e3.trans e4).1, r4, cmpM_bl h4, fun F5 G5 H5 v' v e5 S5 r5 h5 => ?_⟩
      obtain ⟨⟨b, rfl⟩, h5⟩ := h5
      exact ⟨b, r5, hq F5 G5 H5 b (e13.trans (e4.trans e5)) S5 h5⟩
  · exact h3.elim
/-! ## arguments -/
theorem la_nil {σ : L2.St} {Q : List V → Hp → Prop} (h : LA w W 0 (fun _ G Q _ => Q [] G) σ H Q) : tNil σ H Q := by
  obtain ⟨F, G, σ', Q', W', S, rs, hm, hq, hw⟩ := h
  exact hq F G H [] [] .refl S rfl rfl hm
theorem la_cons {n : Nat} {me : ME0} {mr : MA0} {σ : L2.St} {Q : List V → Hp → Prop} (h : LA w W (n + 1) (fun σ G Q W => me σ G (fun v G1 => mr σ G1 (fun vs G2 => Q (v :: vs) G2) W) W) σ H Q) : tCons (LE w W me) (LA w W n mr) σ H Q := by
  obtain ⟨F, G, σ', Q', W', S, rs, hm, hq, hw⟩ := h
  refine ⟨F, G, σ', _, W', S, rs, hm, fun F1 G1 H1 x' x e1 S1 r1 h1 => ?_, hw⟩
  refine ⟨F1, G1, σ', _, W', S1, rs.ext e1.1, h1, fun F2 G2 H2 y' y e2 S2 r2 l2 h2 => ?_, hw.ext e1⟩
  exact hq F2 G2 H2 (x' :: y') _ (e1.trans e2) S2 ⟨x, y, rfl, r1.ext e2.1, r2⟩ (congrArg (· + 1) l2) h2
theorem la_call {n : Nat} {ma : MA0} {f : List MV → MH → MQ → Prop} {σ : L2.St} {Q : VK} (h : LE w W (fun σ G Q W => ma σ G (fun vs G1 => f vs G1 Q) W) σ H Q) : tCB (LCl w f) (LA w W n ma) σ H Q := by
  obtain ⟨F, G, σ', Q', W', S, rs, hm, hq, hw⟩ := h
  refine ⟨F, G, σ', _, W', S, rs, hm, fun F1 G1 H1 xs vs e1 S1 r1 _ h1 => ?_, hw⟩
  exact ⟨F1, G1, xs, Q', S1, r1, h1, hq.ext e1⟩
theorem la_meth (hK : X.K = w.K) {n : Nat} {m : Mth} {mo : ME0} {ma : MA0} {σ : L2.St} {Q : VK} (h : LE w W (fun σ G Q W => mo σ G (fun x G1 => rcv m x G1 (ma σ G1 (fun vs G2 => methM m x vs G2 Q) W)) W) σ H Q) :
    tBM X.K m.ty (LMt w (methM m)) (LE w W mo) (LA w W n ma) σ H Q := by
  obtain ⟨F, G, σ', Q', W', S, rs, hm, hq, hw⟩ := h
  refine ⟨F, G, σ', _, W', S, rs, hm, fun F1 G1 H1 x' x e1 S1 r1 h1 => ?_, hw⟩
  obtain ⟨q1, h1⟩ := rcv_ok hK S1 r1 h1
  refine ⟨q1, F1, G1, σ', _, W', S1, rs.ext e1.1, h1, fun F2 G2 H2 ys vs e2 S2 r2 _ h2 => ?_, hw.ext e1⟩
  exact ⟨F2, G2, x', ys, Q', S2, r1.ext e2.1, r2, h2, hq.ext (e1.trans e2)⟩
theorem la_meth0 (hK : X.K = w.K) {m : Mth} {mo : ME0} {σ : L2.St} {Q : VK} (h : LE w W (fun σ G Q W => mo σ G (fun x G1 => rcv m x G1 (methM m x [] G1 Q)) W) σ H Q) :
    tBM0 X.K m.ty (LMt w (methM m)) (LE w W mo) σ H Q := by
  obtain ⟨F, G, σ', Q', W', S, rs, hm, hq, hw⟩ := h
  refine ⟨F, G, σ', _, W', S, rs, hm, fun F1 G1 H1 x' x e1 S1 r1 h1 => ?_, hw⟩
  obtain ⟨q1, h1⟩ := rcv_ok hK S1 r1 h1
  exact ⟨q1, F1, G1, x', [], Q', S1, r1, rfl, h1, hq.ext e1⟩
theorem la_tup {n : Nat} (hn : n ≤ 1000) {ma : MA0} {σ : L2.St} {Q : VK} (h : LE w W (fun σ G Q W => ma σ G (fun vs G1 => Q (.tup vs) G1) W) σ H Q) : tTup (LA w W n ma) σ H Q := by
  obtain ⟨F, G, σ', Q', W', S, rs, hm, hq, hw⟩ := h
  refine ⟨F, G, σ', _, W', S, rs, hm, fun F1 G1 H1 xs vs e1 S1 r1 l1 h1 => ?_, hw⟩
  refine ⟨by rw [← r1.length, sizeLine_eq]; omega, fun p hp => ?_⟩
  have e : Ext F1 (upd F1 p (.tup vs)) := ext_upd (S1.freeF hp)
  exact hq _ G1 _ (.tup xs) _ (e1.trans (.newF (S1.freeF hp) hp)) (S1.newF hp) ⟨p, vs, rfl, .inl upd_same, r1.ext e⟩ h1
theorem la_lst {n : Nat} (hn : n ≤ 1000) {ma : MA0} {σ : L2.St} {Q : VK} (h : LE w W (fun σ G Q W => ma σ G (fun vs G1 => newL vs G1 Q) W) σ H Q) : tLst (LA w W n ma) σ H Q := by
  obtain ⟨F, G, σ', Q', W', S, rs, hm, hq, hw⟩ := h
  refine ⟨F, G, σ', _, W', S, rs, hm, fun F1 G1 H1 xs vs e1 S1 r1 l1 h1 => ?_, hw⟩
  exact ⟨by rw [← r1.length, sizeLine_eq]; omega, newL_ok S1 r1 h1 (hq.ext e1)⟩
/-- slices -/
def LO (w : Wd) (W : WX) (m : MSt → MH → (Option Int → MH → Prop) → MW → Prop) : TO := fun σ H Q => ∃ F G σ' Q' W', Sim w F G H ∧ RepS w F σ' σ ∧ m σ' G Q' W' ∧ (∀ F' G' H' o, Fut F G H F' G' H' → Sim w F' G' H' → Q' o G' → Q o H') ∧ OkW w F G H W' W
theorem le_slice {ma : ME0} {ml mh : MSt → MH → (Option Int → MH → Prop) → MW → Prop} {σ : L2.St} {Q : VK} (h : LE w W (fun σ G Q W => ma σ G (fun x G1 => ml σ G1 (fun l G2 => mh σ G2 (fun h G3 => slcM x l h G3 Q) W) W) W) σ H Q) :
    tSl (LSl w) (LE w W ma) (LO w W ml) (LO w W mh) σ H Q := by
  obtain ⟨F, G, σ', Q', W', S, rs, hm, hq, hw⟩ := h
  refine ⟨F, G, σ', _, W', S, rs, hm, fun F1 G1 H1 x' x e1 S1 r1 h1 => ?_, hw⟩
  refine ⟨F1, G1, σ', _, W', S1, rs.ext e1.1, h1, fun F2 G2 H2 l e2 S2 h2 => ?_, hw.ext e1⟩
  refine ⟨F2, G2, σ', _, W', S2, rs.ext (e1.trans e2).1, h2, fun F3 G3 H3 u e3 S3 h3 => ?_, hw.ext (e1.trans e2)⟩
  exact ⟨F3, G3, x', Q', S3, r1.ext (e2.trans e3).1, h3, hq.ext (e1.trans (e2.trans e3))⟩
theorem po_nop : PO X none (LO w W fun _ G k _ => k none G) := by
  refine ⟨fun pins s σ H Q I h => (po_none (X := X)).run pins s σ H Q I ?_⟩
  obtain ⟨F, G, σ', Q', W', S, rs, hm, hq, hw⟩ := h
  exact hq F G H none .refl S hm
theorem po_e {e : Expr} {m : ME0} (he : PE X e (LE w W m)) : PO X (some e) (LO w W fun σ G k W => m σ G (fun x G1 => match x with
    | .int i => k (some i) G1
    | _ => False) W) := by
  refine ⟨fun pins s σ H Q I h => (po_some he).run pins s σ H Q I ?_⟩
  obtain ⟨F, G, σ', Q', W', S, rs, hm, hq, hw⟩ := h
  refine ⟨F, G, σ', _, W', S, rs, hm, fun F1 G1 H1 x' x e1 S1 r1 h1 => ?_, hw⟩
  dsimp only at h1
  split at h1
  · rename_i i
    exact ⟨i, r1, hq F1 G1 H1 (some i) e1 S1 h1⟩
  · exact h1.elim
/-! ## calls of defs -/
def OkE (w : Wd) (F : Hp) (G : MH) (H : Hp) (E' : MX → MH → Prop) (E : XK) : Prop := ∀ F' G' H' ex cls d, Fut F G H F' G' H' → Sim w F' G' H' → RepX w F' H' ex cls d → E' ex G' → E cls d H'
def spM (w : Wd) (C : Sem0) (f ar : Nat) : Sp := fun vs H Q E => vs.length = ar ∧ ∃ F G xs Q' E', Sim w F G H ∧ RepL w F xs vs ∧ C f xs G Q' E' ∧ OkQ w F G H Q' Q ∧ OkE w F G H E' E
theorem le_callM {C : Sem0} {f ar n : Nat} {dvs : List V} {dms : List MV} (hd : ∀ F, RepL w F dms dvs) (har : n + dvs.length = ar) {ma : MA0} {σ : L2.St} {Q : VK}
    (h : LE w W (fun σ G Q W => ma σ G (fun vs G1 => C f (vs ++ dms) G1 Q fun ex G2 => W ex σ G2) W) σ H Q) : tCallSD (spM w C f ar) dvs (WE W) (LA w W n ma) σ H Q := by
  obtain ⟨F, G, σ', Q', W', S, rs, hm, hq, hw⟩ := h
  refine ⟨F, G, σ', _, W', S, rs, hm, fun F1 G1 H1 xs vs e1 S1 r1 l1 h1 => ?_, hw⟩
  refine ⟨by rw [List.length_append, ← r1.length, l1]; exact har, F1, G1, xs ++ dms, Q', _, S1, r1.append (hd F1), h1, hq.ext e1, fun F2 G2 H2 ex cls d e2 S2 rx h2 => ?_⟩
  exact hw F2 G2 H2 σ' σ ex cls d (e1.trans e2) S2 (rs.ext (e1.trans e2).1) rx h2
end
end MP

set_option Elab.async false
set_option linter.all false
set_option maxRecDepth 100000
set_option maxHeartbeats 1000000
namespace MP
open PySem PySem.Spec PyProof.Rows L2
section
variable {w : Wd} {X : Cx} {F : Hp} {G : MH} {H : Hp} {W : WX}
/-! ## loops -/
theorem ls_for {mi : MI0} {g : MG} {mb : MS0} {D : Ends} {σ : L2.St} (h : LS w W (fun D σ G => mi σ G (fun xs inv G1 => forM g mb inv D xs σ G1) D.ex) D σ H) : tFor (LI w W mi) (LG w g) (LS w W mb) D σ H := by
  obtain ⟨F, G, σ', D', S, rs, hm, hd⟩ := h
  refine ⟨F, G, σ', _, D'.ex, S, rs, hm, fun F1 G1 H1 xs inv J e1 S1 wk h1 => ?_, hd.ex⟩
  refine ⟨fun i m σ2 H2 => ∃ F2 G2 σ2', Fut F1 G1 H1 F2 G2 H2 ∧ Sim w F2 G2 H2 ∧ RepS w F2 σ2' σ2 ∧ i ≤ xs.length ∧ m = xs.length - i ∧ forM g mb inv D' (xs.drop i) σ2' G2,
    ⟨xs.length, F1, G1, σ', .refl, S1, rs.ext e1.1, Nat.zero_le _, rfl, h1⟩, ?_⟩
  rintro i m σ2 H2 ⟨F2, G2, σ2', e2, S2, rs2, hi, rfl, hf⟩
  by_cases hlt : i < xs.length
  · rw [List.drop_eq_getElem_cons hlt] at hf
    obtain ⟨hinv, hf⟩ := hf
    refine .inr ⟨wk.go F2 G2 H2 i e2.1 S2 hinv hlt, fun σ3 H3 => ∃ F3 G3 σ3', Fut F1 G1 H1 F3 G3 H3 ∧ Sim w F3 G3 H3 ∧ RepS w F3 σ3' σ3 ∧ forM g mb inv D' (xs.drop (i + 1)) σ3' G3, ?_, fun x H3 hy => ?_⟩
    · rintro σ3 H3 ⟨F3, G3, σ3', e3, S3, rs3, h3⟩
      exact ⟨xs.length - (i + 1), by omega, F3, G3, σ3', e3, S3, rs3, hlt, rfl, h3⟩
    · obtain ⟨y, F3, hy1, e3, S3, ry⟩ := wk.yld F2 G2 H2 i x H3 e2.1 S2 hinv hlt hy
      rw [List.getElem?_eq_getElem hlt] at hy1
      cases hy1
      refine ⟨F3, G2, xs[i], σ2', _, S3, rs2.ext e3.1, ry, hf, fun F4 G4 H4 σ4' σ4 e4 S4 rs4 h4 => ?_⟩
      have e14 := e2.trans (e3.trans e4)
      have e04 := e1.trans e14
      refine ⟨F4, G4, σ4', _, S4, rs4, h4, ⟨fun F5 G5 H5 σ5' σ5 e5 S5 rs5 h5 => ⟨F5, G5, σ5', e14.trans e5, S5, rs5, h5⟩, hd.rt.ext e04, hd.nx.ext e04, fun F5 G5 H5 σ5' σ5 e5 S5 rs5 h5 => ⟨F5, G5, σ5', e14.trans e5, S5, rs5, h5⟩, hd.ex.ext e04⟩⟩
  · have e : xs.drop i = [] := List.drop_eq_nil_of_le (by omega)
    rw [e] at hf
    exact .inl ⟨wk.stop F2 G2 H2 i e2.1 S2 hf.1 (by omega), hd.nx F2 G2 H2 σ2' σ2 (e1.trans e2) S2 rs2 hf.2⟩
theorem ls_while {mc : MT0} {mb : MS0} {D : Ends} {σ : L2.St} (h : LS w W (fun D σ G => ∃ n, whileM mc mb D n σ G) D σ H) : tWhile (LT w W mc) (LS w W mb) D σ H := by
  obtain ⟨F, G, σ', D', S, rs, ⟨n, hm⟩, hd⟩ := h
  refine ⟨fun m σ2 H2 => ∃ F2 G2 σ2', Fut F G H F2 G2 H2 ∧ Sim w F2 G2 H2 ∧ RepS w F2 σ2' σ2 ∧ whileM mc mb D' m σ2' G2, ⟨n, F, G, σ', .refl, S, rs, hm⟩, ?_⟩
  rintro m σ2 H2 ⟨F2, G2, σ2', e2, S2, rs2, hf⟩
  cases m with
  | zero => exact hf.elim
  | succ m =>
    refine ⟨F2, G2, σ2', _, _, S2, rs2, hf, fun F3 G3 H3 t e3 S3 h3 => ?_, hd.ex.ext e2⟩
    have e03 := e2.trans e3
    cases t with
    | true =>
      dsimp only
      rw [if_pos rfl]
      refine ⟨fun σ4 H4 => ∃ F4 G4 σ4', Fut F G H F4 G4 H4 ∧ Sim w F4 G4 H4 ∧ RepS w F4 σ4' σ4 ∧ whileM mc mb D' m σ4' G4, fun σ4 H4 q => ⟨m, Nat.lt_succ_self _, q⟩, ?_⟩
      exact ⟨F3, G3, σ2', _, S3, rs2.ext e3.1, h3, ⟨fun F5 G5 H5 σ5' σ5 e5 S5 rs5 h5 => ⟨F5, G5, σ5', e03.trans e5, S5, rs5, h5⟩, hd.rt.ext e03, hd.nx.ext e03, fun F5 G5 H5 σ5' σ5 e5 S5 rs5 h5 => ⟨F5, G5, σ5', e03.trans e5, S5, rs5, h5⟩, hd.ex.ext e03⟩⟩
    | false =>
      dsimp only
      rw [if_neg Bool.false_ne_true]
      exact hd.nx F3 G3 H3 σ2' σ2 e03 S3 (rs2.ext e3.1) h3
/-! ## comprehensions -/
theorem wipe_get (σ : L2.St) (j : Nat) : ∀ vs : List Nat, (L2.wipe σ vs)[j]? = if j ∈ vs then σ[j]?.map (fun _ => none) else σ[j]?
  | [] => by simp [L2.wipe]
  | v :: vs => by
    show ((L2.wipe σ vs).set v none)[j]? = _
    by_cases e : v = j
    · subst e
      rw [if_pos List.mem_cons_self]
      by_cases hl : v < σ.length
      · rw [List.getElem?_set_self (by rw [L2.wipe_length]; exact hl), List.getElem?_eq_getElem hl]
        rfl
      · rw [List.getElem?_eq_none (by rw [List.length_set, L2.wipe_length]; omega), List.getElem?_eq_none (by omega)]
        rfl
    · rw [List.getElem?_set_ne e, wipe_get σ j vs]
      by_cases h : j ∈ vs
      · rw [if_pos h, if_pos (List.mem_cons_of_mem _ h)]
      · rw [if_neg h, if_neg (by rw [List.mem_cons]; rintro (z | z); exact e z.symm; exact h z)]
theorem wipe_set {σ : L2.St} {i : Nat} {x : Option V} {vs : List Nat} (h : i ∈ vs) : L2.wipe (σ.set i x) vs = L2.wipe σ vs := by
  refine List.ext_getElem? fun j => ?_
  rw [wipe_get, wipe_get]
  by_cases hj : j ∈ vs
  · rw [if_pos hj, if_pos hj]
    by_cases e : i = j
    · subst e
      by_cases hl : i < σ.length
      · rw [List.getElem?_set_self hl, List.getElem?_eq_getElem hl]
        rfl
      · rw [List.getElem?_eq_none (by rw [List.length_set]; omega), List.getElem?_eq_none (by omega)]
    · rw [List.getElem?_set_ne e]
  · rw [if_neg hj, if_neg hj, List.getElem?_set_ne (fun (e : i = j) => hj (e ▸ h))]
theorem wipe_wipe {σ : L2.St} {vs : List Nat} : L2.wipe (L2.wipe σ vs) vs = L2.wipe σ vs := by
  refine List.ext_getElem? fun j => ?_
  rw [wipe_get, wipe_get]
  by_cases hj : j ∈ vs
  · rw [if_pos hj, if_pos hj]
    cases σ[j]? <;> rfl
  · rw [if_neg hj, if_neg hj]
theorem wipeM_rep {σ' : MSt} {σ : L2.St} (r : RepS w F σ' σ) : ∀ vs : List Nat, RepS w F (wipeM σ' vs) (L2.wipe σ vs)
  | [] => r
  | v :: vs => by
    show RepS w F (stv (wipeM σ' vs) v none) ((L2.wipe σ vs).set v none)
    rw [stv_eq]
    exact (wipeM_rep r vs).unset v
/-- a target at HandS' level -/
def gOf (K : PySem.W.Frag) : MG → TG
  | .nm i => gName i
  | .tup is => gTup K is.length (gNms is)
def MG.sl : MG → List Nat
  | .nm i => [i]
  | .tup is => is
theorem gNms_wipe {Q : L2.St → Hp → Prop} {vs0 : List Nat} : ∀ {is : List Nat} {xs : List MV} {vs : List V} {σ' : MSt} {σ : L2.St}, (∀ i ∈ is, i ∈ vs0) → xs.length = is.length → RepL w F xs vs → RepS w F σ' σ →
    (∀ σ2, RepS w F ((is.zip xs).foldl (fun s p => stv s p.1 (some p.2)) σ') σ2 → L2.wipe σ2 vs0 = L2.wipe σ vs0 → Q σ2 H) → gNms is vs σ H Q
  | [], [], vs, σ', σ, _, _, r, rs, k => ⟨r, k σ rs rfl⟩
  | [], _ :: _, _, _, _, _, h, _, _, _ => nomatch h
  | _ :: _, [], _, _, _, _, h, _, _, _ => nomatch h
  | i :: is, x :: xs, vs, σ', σ, hi, h, ⟨y, r, e, h1, h2⟩, rs, k => by
    refine ⟨y, r, e, ?_⟩
    refine gNms_wipe (σ' := stv σ' i (some x)) (fun j hj => hi j (List.mem_cons_of_mem _ hj)) (Nat.succ.inj h) h2 ?_ fun σ2 r2 w2 => k σ2 r2 ?_
    · rw [stv_eq]
      exact rs.set i h1
    · rw [w2, wipe_set (hi i List.mem_cons_self)]
theorem gOf_of {g : MG} {x' : MV} {x : V} {σ' : MSt} {σ : L2.St} {Q' : MSt → MH → Prop} {Q : L2.St → Hp → Prop} {vs : List Nat} (hv : ∀ i ∈ g.sl, i ∈ vs) (S : Sim w F G H) (rs : RepS w F σ' σ) (r : Rep w F x' x) (h : asgM g x' σ' G Q')
    (k : ∀ σ2' σ2, Q' σ2' G → RepS w F σ2' σ2 → L2.wipe σ2 vs = L2.wipe σ vs → Q σ2 H) : gOf w.K g x σ H Q := by
  cases g with
  | nm i =>
    have h : Q' (stv σ' i (some x')) G := h
    rw [stv_eq] at h
    exact k _ _ h (rs.set i r) (wipe_set (hv i List.mem_cons_self))
  | tup is =>
    unfold asgM at h
    simp only at h
    split at h
    · obtain ⟨a, ys, rfl, ha, ra⟩ := S.tup r
      exact ⟨a, ys, rfl, ha, by rw [← ra.length]; exact h.1, gNms_wipe hv h.1 ra rs fun σ2 r2 w2 => k _ σ2 h.2 r2 w2⟩
    · exact h.elim
abbrev noW : WX := fun _ _ _ _ => False
theorem okW_no : OkW w F G H (fun _ _ _ => False) noW := fun _ _ _ _ _ _ _ _ _ _ _ _ h => h
theorem adopt {D : Addr} {xs : List MV} {ys : List V} {Q' : MQ} {Q : VK} (S : Sim w F G H) (hD : H D = some (.lst ys)) (hF : F D = none) (hG : G D = none) (r : RepL w F xs ys) (h : newL xs G Q')
    (k : ∀ F' G' H' x v, Ext F F' → (∀ a o, a ≠ D → H a = some o → F a = none → G a = none → H' a = some o ∧ F' a = none ∧ G' a = none) → Sim w F' G' H' → Rep w F' x v → Q' x G' → Q v H') : Q (.ref D) H := by
  have eH : upd H D (.lst ys) = H := by
    funext b
    by_cases e : b = D
    · rw [e, upd_same, hD]
    · rw [upd_ne e]
  rcases h with h | h
  · have e : Ext F (upd F D (.lst ys)) := ext_upd hF
    refine k _ G H (.lst xs) _ e (fun a o ne h1 h2 h3 => ⟨h1, by rw [upd_ne ne]; exact h2, h3⟩) ⟨fun a u q => ?_, fun a g q => ?_⟩ ⟨D, ys, rfl, upd_same, r.ext e⟩ h
    · by_cases ea : a = D
      · rw [ea, upd_same] at q
        rw [ea, hD]
        exact q
      · rw [upd_ne ea] at q
        exact S.sub a u q
    · obtain ⟨h1, o', h2, h3⟩ := S.mu a g q
      have ea : a ≠ D := fun z => by rw [z, hG] at q; cases q
      exact ⟨by rw [upd_ne ea]; exact h1, o', h2, h3.ext e⟩
  · have S2 : Sim w F (mup G D (.lst xs)) (upd H D (.lst ys)) := S.put (g := .lst xs) hF ⟨ys, rfl, r⟩
    rw [eH] at S2
    exact k F _ H (.ref D) _ .refl (fun a o ne h1 h2 h3 => ⟨h1, h2, by rw [mup_ne ne]; exact h3⟩) S2 rfl (h D hG)
theorem le_lc {mi : MI0} {g : MG} {mtW : MT0} {meW : ME0} {own : List Nat} (hv : ∀ i ∈ g.sl, i ∈ own) {σ : L2.St} {Q : VK}
    (h : LE w W (fun σ G Q W => mi σ G (fun xs inv G1 => lcM g (fun σ1 G2 k => mtW σ1 G2 k fun _ _ _ => False) (fun σ1 G2 k => meW σ1 G2 k fun _ _ _ => False) (wipeM σ own) inv xs [] G1 fun ys G3 => newL ys G3 Q) W) σ H Q) :
    tLc (LI w W mi) (gOf w.K g) (LT w noW mtW) (LE w noW meW) own σ H Q := by
  obtain ⟨F, G, σ', Q', W', S, rs, hm, hq, hw⟩ := h
  refine ⟨F, G, σ', _, W', S, rs, hm, fun F1 G1 H1 xs inv J e1 S1 wk h1 => ?_, hw⟩
  intro D hD
  have hF1 := S1.freeF hD
  have hG1 := S1.freeG hD
  refine ⟨fun i m H2 => ∃ F2 G2 acc ys, Fut F1 G1 (upd H1 D (.lst [])) F2 G2 (upd H2 D (.lst [])) ∧ F2 D = none ∧ G2 D = none ∧ Sim w F2 G2 H2 ∧ H2 D = some (.lst ys) ∧ RepL w F2 acc ys ∧ acc.length ≤ i ∧ i ≤ xs.length ∧ m = xs.length - i ∧
      lcM g (fun σ1 G2 k => mtW σ1 G2 k fun _ _ _ => False) (fun σ1 G2 k => meW σ1 G2 k fun _ _ _ => False) (wipeM σ' own) inv (xs.drop i) acc G2 (fun ys G3 => newL ys G3 Q'), ⟨xs.length, F1, G1, [], [], ?_, hF1, hG1, ?_, upd_same, rfl, Nat.le_refl _, Nat.zero_le _, rfl, h1⟩, ?_⟩
  · rw [upd_upd]
    exact .refl
  · refine ⟨fun a u q => ?_, fun a g q => ?_⟩
    · rw [upd_ne (ne_of_none q hF1)]
      exact S1.sub a u q
    · obtain ⟨q1, o', q2, q3⟩ := S1.mu a g q
      have ea : a ≠ D := fun z => by rw [z, hG1] at q; cases q
      exact ⟨q1, o', by rw [upd_ne ea]; exact q2, q3⟩
  rintro i m H2 ⟨F2, G2, acc, ys, e2, hF2, hG2, S2, hD2, ra, hacc, hi, rfl, hf⟩
  have rsw : RepS w F2 (wipeM σ' own) (L2.wipe σ own) := wipeM_rep (rs.ext (e1.1.trans e2.1)) own
  by_cases hlt : i < xs.length
  · rw [List.drop_eq_getElem_cons hlt] at hf
    obtain ⟨hinv, hf⟩ := hf
    refine .inr ⟨wk.go F2 G2 H2 i e2.1 S2 hinv hlt, fun H3 => ∃ F3 G3 acc ys, Fut F1 G1 (upd H1 D (.lst [])) F3 G3 (upd H3 D (.lst [])) ∧ F3 D = none ∧ G3 D = none ∧ Sim w F3 G3 H3 ∧ H3 D = some (.lst ys) ∧ RepL w F3 acc ys ∧ acc.length ≤ i + 1 ∧
      lcM g (fun σ1 G2 k => mtW σ1 G2 k fun _ _ _ => False) (fun σ1 G2 k => meW σ1 G2 k fun _ _ _ => False) (wipeM σ' own) inv (xs.drop (i + 1)) acc G3 (fun ys G3 => newL ys G3 Q'), ?_, fun x H3 hy => ?_⟩
    · rintro H3 ⟨F3, G3, acc3, ys3, e3, hF3, hG3, S3, hD3, ra3, hacc3, h3⟩
      exact ⟨xs.length - (i + 1), by omega, F3, G3, acc3, ys3, e3, hF3, hG3, S3, hD3, ra3, hacc3, hlt, rfl, h3⟩
    · obtain ⟨y, F3, hy1, e3, S3, ry⟩ := wk.yld F2 G2 H2 i x H3 e2.1 S2 hinv hlt hy
      rw [List.getElem?_eq_getElem hlt] at hy1
      cases hy1
      obtain ⟨hD3, hF3, hG3⟩ := e3.2 D _ hD2 hF2 hG2
      refine gOf_of hv S3 (rsw.ext e3.1) ry hf fun σ4' σ4 h4 rs4 w4 => ⟨by rw [w4, wipe_wipe], ?_⟩
      have step : ∀ {F4 G4 H4}, Fut F3 G2 H3 F4 G4 H4 → Fut F1 G1 (upd H1 D (.lst [])) F4 G4 (upd H4 D (.lst [])) := by
        intro F4 G4 H4 e4
        refine ⟨e2.1.trans (e3.1.trans e4.1), fun a o q1 q2 q3 => ?_⟩
        obtain ⟨p1, p2, p3⟩ := e2.2 a o q1 q2 q3
        by_cases ea : a = D
        · subst ea
          obtain ⟨_, z2, z3⟩ := e4.2 _ _ hD3 hF3 hG3
          rw [upd_same] at p1 ⊢
          exact ⟨p1, z2, z3⟩
        · rw [upd_ne ea] at p1 ⊢
          obtain ⟨z1, z2, z3⟩ := e3.2 a o p1 p2 p3
          exact e4.2 a o z1 z2 z3
      refine ⟨F3, G2, σ4', _, fun _ _ _ => False, S3, rs4, h4, fun F4 G4 H4 t e4 S4 h5 => ?_, okW_no⟩
      obtain ⟨hD4, hF4, hG4⟩ := e4.2 D _ hD3 hF3 hG3
      cases t with
      | false =>
        rw [if_neg Bool.false_ne_true]
        exact ⟨F4, G4, acc, ys, step e4, hF4, hG4, S4, hD4, ra.ext (e3.1.trans e4.1), Nat.le_succ_of_le hacc, h5⟩
      | true =>
        rw [if_pos rfl]
        refine ⟨F4, G4, σ4', _, fun _ _ _ => False, S4, rs4.ext e4.1, h5, fun F5 G5 H5 v' v e5 S5 r5 h6 => ?_, okW_no⟩
        obtain ⟨hD5, hF5, hG5⟩ := e5.2 D _ hD4 hF4 hG4
        have hl := wk.len
        refine ⟨ys, hD5, by rw [← ra.length]; omega, F5, G5, acc ++ [v'], ys ++ [v], ?_, hF5, hG5, ?_, upd_same, (ra.ext (e3.1.trans (e4.1.trans e5.1))).append (repL_one r5), by rw [List.length_append, List.length_singleton]; omega, h6⟩
        · rw [upd_upd]
          exact step (e4.trans e5)
        · refine ⟨fun a u q => ?_, fun a g q => ?_⟩
          · rw [upd_ne (ne_of_none q hF5)]
            exact S5.sub a u q
          · obtain ⟨q1, o', q2, q3⟩ := S5.mu a g q
            have ea : a ≠ D := fun z => by rw [z, hG5] at q; cases q
            exact ⟨q1, o', by rw [upd_ne ea]; exact q2, q3⟩
  · have e : xs.drop i = [] := List.drop_eq_nil_of_le (by omega)
    rw [e] at hf
    refine .inl ⟨wk.stop F2 G2 H2 i e2.1 S2 hf.1 (by omega), ?_⟩
    refine adopt S2 hD2 hF2 hG2 ra hf.2 fun F3 G3 H3 x v e3 ex S3 r3 h3 => ?_
    refine hq F3 G3 H3 x v (e1.trans ⟨e2.1.trans e3, fun a o q1 q2 q3 => ?_⟩) S3 r3 h3
    have ea : a ≠ D := fun z => by rw [z, hD] at q1; cases q1
    obtain ⟨p1, p2, p3⟩ := e2.2 a o (by rw [upd_ne ea]; exact q1) q2 q3
    rw [upd_ne ea] at p1
    exact ex a o ea p1 p2 p3
end
end MP

set_option Elab.async false
set_option linter.all false
set_option maxRecDepth 100000
set_option maxHeartbeats 1000000
namespace MP
open PySem PySem.Spec PyProof.Rows L2
/-! # the check: a text of the language, and the small program that speaks of it -/
def visB (sc : Scope) (x : Str) : Bool := match sc.names.lookup x with
  | some .local => true
  | some .cell => true
  | some .free => true
  | _ => false
def locB (sc : Scope) (x : Str) : Bool := match sc.names.lookup x with
  | some .local => true
  | some .cell => true
  | _ => false
def glB (sc : Scope) (x : Str) : Bool := (match sc.names.lookup x with
  | some .globalImplicit => true
  | _ => false) && !(x == ("__debug__" : Str)) && !decide (x = "__name__")
/-- flat values -/
def flatEq : MV → MV → Bool
  | .non, .non => true
  | .bl a, .bl b => a == b
  | .int i, .int j => decide (i = j)
  | .str x, .str y => decide (x = y)
  | .tup [], .tup [] => true
  | _, _ => false
theorem flatEq_eq : ∀ {a b : MV}, flatEq a b = true → a = b := by
  intro a b h
  unfold flatEq at h
  split at h
  · rfl
  · rw [beq_iff_eq.mp h]
  · rw [of_decide_eq_true h]
  · rw [of_decide_eq_true h]
  · rfl
  · cases h
def flatEqL : List MV → List MV → Bool
  | [], [] => true
  | a :: r, b :: s => flatEq a b && flatEqL r s
  | _, _ => false
theorem flatEqL_eq : ∀ {a b : List MV}, flatEqL a b = true → a = b
  | [], [], _ => rfl
  | a :: r, b :: s, h => by
    unfold flatEqL at h
    rw [Bool.and_eq_true] at h
    rw [flatEq_eq h.1, flatEqL_eq h.2]
  | [], _ :: _, h => nomatch h
  | _ :: _, [], h => nomatch h
def okTx (x : Tx) : Bool := decide (x.length ≤ 100000) && x.all fun c => decide (c < 1114112)
theorem okTx_ok {x : Tx} (h : okTx x = true) : TxOk x := by
  unfold okTx at h
  rw [Bool.and_eq_true] at h
  refine ⟨?_, fun c hc => ?_⟩
  · have q := of_decide_eq_true h.1
    rw [sizeLine_eq]
    omega
  · exact of_decide_eq_true (List.all_eq_true.mp h.2 c hc)
def cstB : MV → Const → Bool
  | .non, .none => true
  | .bl a, .bool b => a == b
  | .int i, .int j => decide (i = j)
  | .str x, .str y => decide (y = ⟨x.toArray⟩) && okTx x
  | _, _ => false
/-- a form in which a def is called by places: its name, how many are given, what the defaults add -/
structure Form where
  f : Nat
  name : Str
  n : Nat
  dms : List MV
structure KForm where
  f : Nat
  name : Str
  n : Nat
  ks : List Str
  src : List PSrc
structure Tab where
  globs : List (Str × MV)
  forms : List Form
  kforms : List KForm
def psEq : PSrc → PSrc → Bool
  | .p i, .p j => i == j
  | .k i, .k j => i == j
  | .d a, .d b => flatEq a b
  | _, _ => false
def psEqL : List PSrc → List PSrc → Bool
  | [], [] => true
  | a :: r, b :: s => psEq a b && psEqL r s
  | _, _ => false
theorem psEqL_eq : ∀ {a b : List PSrc}, psEqL a b = true → a = b
  | [], [], _ => rfl
  | a :: r, b :: s, h => by
    unfold psEqL at h
    rw [Bool.and_eq_true] at h
    rw [psEqL_eq h.2]
    have h1 := h.1
    unfold psEq at h1
    split at h1
    · rw [beq_iff_eq.mp h1]
    · rw [beq_iff_eq.mp h1]
    · rw [flatEq_eq h1]
    · cases h1
  | [], _ :: _, h => nomatch h
  | _ :: _, [], h => nomatch h
def nmsB (N : List Str) (sc : Scope) : List Nat → List Expr → Bool
  | [], [] => true
  | i :: is, .Name x _ :: es => decide (N[i]? = some x) && locB sc x && nmsB N sc is es
  | _, _ => false
def chkG (N : List Str) (sc : Scope) : MG → Expr → Bool
  | .nm i, .Name x _ => decide (N[i]? = some x) && locB sc x
  | .tup is, .Tuple es _ _ => nmsB N sc is es
  | _, _ => false
def keyB : MK → Const → Bool
  | .inl i, .int j => decide (i = j)
  | .inr x, .str y => decide (y = ⟨x.toArray⟩)
  | _, _ => false
def keysB : List MK → List (Option Expr) → Bool
  | [], [] => true
  | k :: ks, some (.Constant c _ _) :: es => keyB k c && keysB ks es
  | _, _ => false
def isStar : Expr → Bool
  | .Starred _ _ => true
  | _ => false
def notBare : Expr → Bool
  | .Call (.Name _ _) [] [] _ => false
  | _ => true
def noSet : Expr → Bool
  | .Set _ _ _ => false
  | _ => true
def kwNames : List Keyword → Option (List Str)
  | [] => some []
  | ⟨some n, _, _⟩ :: r => (kwNames r).map (n :: ·)
  | _ => none
section
variable (T : Tab) (N : List Str)
mutual
def chkE : Scope → ME → Expr → Bool
  | sc, .var i, e => match e with
    | .Name x _ => decide (N[i]? = some x) && visB sc x && !(x == ("__debug__" : Str)) && !(x == ("__classdict__" : Str))
    | _ => false
  | _, .cst v, e => match e with
    | .Constant c _ _ => cstB v c
    | _ => false
  | sc, .glob x v, e => match e with
    | .Name y _ => decide (x = y) && glB sc x && T.globs.any fun p => decide (p.1 = x) && flatEq p.2 v
    | _ => false
  | sc, .ty t, e => match e with
    | .Name y _ => decide (y = Str.ofString t.nm) && glB sc y && decide (t ≠ .none)
    | _ => false
  | _, .nop, _ => false
  | sc, .bin op a b, e => match e with
    | .BinOp l o r _ => decide (o = op) && chkE sc a l && chkE sc b r
    | _ => false
  | sc, .neg a, e => match e with
    | .UnaryOp .USub l _ => chkE sc a l
    | _ => false
  | sc, .cmp op a b, e => match e with
    | .Compare l [o] [r] _ => decide (o = op) && !(behindInMarks o r) && chkE sc a l && chkE sc b r
    | _ => false
  | sc, .chain o1 o2 a b c, e => match e with
    | .Compare l [p1, p2] [r1, r2] _ => decide (p1 = o1) && decide (p2 = o2) && !(behindInMarks p2 r2) && chkE sc a l && chkE sc b r1 && chkE sc c r2
    | _ => false
  | sc, .and a b, e => match e with
    | .BoolOp .And (x :: y :: r) p => chkE sc a x && (match r with
      | [] => chkE sc b y
      | _ => chkE sc b (.BoolOp .And (y :: r) p))
    | _ => false
  | sc, .or a b, e => match e with
    | .BoolOp .Or (x :: y :: r) p => chkE sc a x && (match r with
      | [] => chkE sc b y
      | _ => chkE sc b (.BoolOp .Or (y :: r) p))
    | _ => false
  | sc, .not a, e => match e with
    | .UnaryOp .Not l _ => chkE sc a l
    | _ => false
  | sc, .ite c a b, e => match e with
    | .IfExp t x y _ => chkE sc c t && chkE sc a x && chkE sc b y
    | _ => false
  | sc, .prim p as, e => match e with
    | .Call (.Name f _) args [] _ => decide (f = Str.ofString p.nm) && glB sc f && chkA sc as args && !args.isEmpty
    | _ => false
  | sc, .meth m o as, e => match e with
    | .Call (.Attribute x a apos) args [] pos => decide (a = Str.ofString m.nm) && chkE sc o x && notBare x && chkA sc as args && (apos.endLine == pos.line) && decide (args.length < 20)
    | _ => false
  | sc, .idx a i, e => match e with
    | .Subscript x y _ => chkE sc a x && chkE sc i y
    | _ => false
  | sc, .slice a lo hi, e => match e with
    | .Subscript x (.Slice l h none _) _ => chkE sc a x && (match l with
      | none => isNop lo
      | some l => !isNop lo && chkE sc lo l) && (match h with
      | none => isNop hi
      | some h => !isNop hi && chkE sc hi h)
    | _ => false
  | sc, .tup as, e => match e with
    | .Tuple es _ _ => chkA sc as es && decide (es.length ≤ 1000)
    | _ => false
  | sc, .lst as, e => match e with
    | .List es _ => chkA sc as es && decide (es.length ≤ 1000)
    | _ => false
  | sc, .dct ks as, e => match e with
    | .Dict keys values _ => keysB ks keys && chkA sc as values && decide (ks.length = as.length) && decide (keys.length ≤ 15) && decide (ks.Nodup)
    | _ => false
  | sc, .call f as dms, e => match e with
    | .Call (.Name g _) args [] _ => glB sc g && chkA sc as args && !args.isEmpty && T.forms.any fun p => decide (p.f = f) && decide (p.name = g) && decide (p.n = as.length) && flatEqL p.dms dms
    | _ => false
  | sc, .callK f as kvs src, e => match e with
    | .Call (.Name g _) args kws _ => glB sc g && chkA sc as args && !args.isEmpty && chkA sc kvs (kws.map (·.value)) && (match kwNames kws with
      | none => false
      | some ks => T.kforms.any fun p => decide (p.f = f) && decide (p.name = g) && decide (p.n = as.length) && decide (p.ks = ks) && psEqL p.src src)
    | _ => false
  | sc, .lc g s it cs el own, e => match e with
    | .ListComp elt [⟨tg, iter, ifs, a⟩] scope _ => decide (a = 0) && noSet iter && blkC N sc scope (own.map fun i => (N.getD i Str.empty, i)) && g.sl.all (fun i => own.contains i) && chkG N scope g tg && (match s with
      | .val => chkA sc it [iter]
      | .range => match iter with
        | .Call (.Name f _) args [] _ => decide (f = Str.ofString "range") && glB sc f && chkA sc it args && (decide (args.length = 1) || decide (args.length = 2))
        | _ => false) && chkA scope cs ifs && decide (ifs.length ≤ 1) && chkE scope el elt
    | _ => false
def chkA : Scope → List ME → List Expr → Bool
  | _, [], es => match es with
    | [] => true
    | _ => false
  | sc, m :: ms, es => match es with
    | e :: es => !(isStar e) && chkE sc m e && chkA sc ms es
    | [] => false
end
end
end MP

set_option Elab.async false
set_option linter.all false
set_option maxRecDepth 100000
set_option maxHeartbeats 2000000
namespace MP
open PySem PySem.Spec PyProof.Rows L2
/-! # a text that passes the check does what the small program says -/
/-- what must be true of a context: its names, its scope, what the top has left -/
structure Cn (w : Wd) (T : Tab) (C : Sem0) (n : Nat) (X : Cx) (N : List Str) (sc : Scope) : Prop where
  hN : X.N = N
  nd : X.N.Nodup
  hK : X.K = w.K
  calm : X.calm = true
  room : Room n X.A
  vis : ∀ x, visB sc x = true → Vis X.env.scope x
  loc : ∀ x, locB sc x = true → Loc X.env.scope x ∧ (X.fn x = true ∨ X.env.scope.names.lookup x = some .local)
  gl : ∀ x, glB sc x = true → Gl X x
  free : ∀ x, sc.names.lookup x = some .cell ∨ sc.names.lookup x = some .free → X.env.scope.names.lookup x = some .cell ∨ X.env.scope.names.lookup x = some .free
  kd : X.env.scope.kind = .function
  bltB : ∀ p : Prim, X.mg (Str.ofString p.nm) = none
  bltT : ∀ t : BT, t ≠ .none → X.mg (Str.ofString t.nm) = none
  rng : X.mg "range" = none
  glob : ∀ p ∈ T.globs, ∃ (v : V) (u : Value), X.mg p.1 = some u ∧ RelV v u ∧ ∀ F, Rep w F p.2 v
  form : ∀ p ∈ T.forms, ∃ (a : Addr) (fd : FuncData) (ps : List Str) (ds : List Value) (dvs : List V), X.mg p.name = some (.ref a) ∧ PySem.W.keepIn X.K (.ref a) = true ∧ FnOk X.prog X.w X.K X.mg X.base (L2.CX X.prog X.w) n a fd ps (spM w C p.f ps.length) ∧
    Binds X.K fd ps ds ∧ Vals dvs ds ∧ (∀ F, RepL w F p.dms dvs) ∧ p.n + dvs.length = ps.length
  kform : ∀ p ∈ T.kforms, ∃ (a : Addr) (fd : FuncData) (ps : List Str) (g : List Value → List Value → List Value) (gV : List V → List V → List V), X.mg p.name = some (.ref a) ∧ PySem.W.keepIn X.K (.ref a) = true ∧ FnOk X.prog X.w X.K X.mg X.base (L2.CX X.prog X.w) n a fd ps (spM w C p.f ps.length) ∧
    KBn X.K fd ps p.n p.ks g gV ∧ ∀ F xs vs ys zs, RepL w F xs vs → RepL w F ys zs → xs.length = p.n → ys.length = p.ks.length → RepL w F (asm p.src xs ys) (gV vs zs) ∧ (gV vs zs).length = ps.length
theorem gl_dbg {sc : Scope} {x : Str} (h : glB sc x = true) : (x == ("__debug__" : Str)) = false ∧ x ≠ "__name__" := by
  unfold glB at h
  rw [Bool.and_eq_true, Bool.and_eq_true, Bool.not_eq_true', Bool.not_eq_true'] at h
  exact ⟨h.1.2, of_decide_eq_false h.2⟩
theorem star_cons {e : Expr} {es : List Expr} {env : Env} (h : isStar e = false) : starEach (e :: es) env = (false, eval e env) :: starEach es env := by
  cases e <;> first | rfl | cases h
def noStar : List Expr → Bool
  | [] => true
  | e :: es => !(isStar e) && noStar es
theorem star_any {pos : Pos} {env : Env} : ∀ {es : List Expr}, noStar es = true → (backTo pos (starEach es env)).any (·.1) = false ∧ (backTo pos (starEach es env)).all (fun x => !x.1) = true
  | [], _ => ⟨rfl, rfl⟩
  | e :: es, h => by
    unfold noStar at h
    rw [Bool.and_eq_true, Bool.not_eq_true'] at h
    obtain ⟨q1, q2⟩ := star_any (pos := pos) (env := env) h.2
    rw [star_cons h.1]
    refine ⟨?_, ?_⟩
    · show (false || (backTo pos (starEach es env)).any (·.1)) = false
      rw [q1]
      rfl
    · show (!false && (backTo pos (starEach es env)).all (fun x => !x.1)) = true
      rw [q2]
      rfl
theorem nms_of {w : Wd} {T : Tab} {C : Sem0} {n : Nat} {X : Cx} {N : List Str} {sc : Scope} (c : Cn w T C n X N sc) : ∀ {is : List Nat} {es : List Expr}, nmsB N sc is es = true → NmsOk X is es
  | [], [], _ => trivial
  | [], _ :: _, h => by simp [nmsB] at h
  | _ :: _, [], h => by simp [nmsB] at h
  | i :: is, e :: es, h => by
    cases e <;> first
      | (simp only [nmsB, Bool.and_eq_true, decide_eq_true_eq] at h
         exact ⟨by rw [c.hN]; exact h.1.1, (c.loc _ h.1.2).1, (c.loc _ h.1.2).2, nms_of c h.2⟩)
      | (simp [nmsB] at h)
theorem snd_G {w : Wd} {T : Tab} {C : Sem0} {n : Nat} {X : Cx} {N : List Str} {sc : Scope} (c : Cn w T C n X N sc) {g : MG} {e : Expr} (h : chkG N sc g e = true) : PG X e (LG w g) ∧ PG X e (gOf w.K g) := by
  cases g with
  | nm i =>
    cases e <;> first
      | (simp only [chkG, Bool.and_eq_true, decide_eq_true_eq] at h
         have h1 := h.1
         rw [← c.hN] at h1
         exact ⟨pg_one c.nd h1 (c.loc _ h.2).1 (c.loc _ h.2).2, pg_name c.nd h1 (c.loc _ h.2).1 (c.loc _ h.2).2⟩)
      | (simp [chkG] at h)
  | tup is =>
    cases e <;> first
      | (have h : nmsB N sc is _ = true := h
         have q := nms_of c h
         obtain ⟨q1, q2, q3⟩ := pg_nms c.nd q
         refine ⟨pg_many c.hK c.calm c.nd q, ?_⟩
         show PG X _ (gTup w.K is.length (gNms is))
         rw [← c.hK]
         exact pg_tup c.calm q1 q2 q3)
      | (simp [chkG] at h)
theorem prim_boot (p : Prim) : (p.isTy = false ∧ bootBuiltins (Str.ofString p.nm) = some (.builtin p.nm)) ∨ (p.isTy = true ∧ bootBuiltins (Str.ofString p.nm) = some (.type p.nm)) := by
  cases p <;> first | exact .inl ⟨rfl, by decide +kernel⟩ | exact .inr ⟨rfl, by decide +kernel⟩
theorem ty_boot (t : BT) (h : t ≠ .none) : bootBuiltins (Str.ofString t.nm) = some (.type t.nm) := by
  cases t <;> first | exact (h rfl).elim | decide +kernel
theorem relabel_get {env : Env} {x : Str} : ∀ {names : List (Str × NameKind)} {k : NameKind}, names.lookup x = some k →
    (names.map fun (n, k) => if (k == NameKind.free && env.scope.kind == .function && env.kindOf n == some .cell) then (n, NameKind.cell) else (n, k)).lookup x = some (if (k == NameKind.free && env.scope.kind == .function && env.kindOf x == some .cell) then NameKind.cell else k)
  | [], _, h => nomatch h
  | (m, k') :: r, k, h => by
    rw [List.map_cons]
    by_cases e : x = m
    · subst e
      have h : some k' = some k := by simpa [List.lookup] using h
      cases h
      dsimp only
      split <;> simp [List.lookup, *]
    · have e' : (x == m) = false := by simpa using e
      have h : r.lookup x = some k := by simpa [List.lookup, e'] using h
      have ih := relabel_get (env := env) h
      dsimp only
      split <;> (simp only [List.lookup, e']; exact ih)
/-- a comprehension's block -/
theorem Cn.blk {w : Wd} {T : Tab} {C : Sem0} {n : Nat} {X : Cx} {N : List Str} {sc : Scope} (c : Cn w T C n X N sc) {scope : Scope} {own : List (Str × Nat)} (hb : BlkOk X.N X.env.scope scope own)
    (s : Shared) (H : Hp) (A : Addr) (cl : List (Str × Addr)) (fp : List Addr) : Cn w T C n (X.blk s H scope (compEnvC scope cl A X.env) fp) N scope := by
  have get : ∀ x k, scope.names.lookup x = some k → (relabel scope X.env).names.lookup x = some k ∨ (k = .free ∧ (relabel scope X.env).names.lookup x = some .cell) := by
    intro x k h
    have q := relabel_get (env := X.env) h
    by_cases e : (k == NameKind.free && X.env.scope.kind == .function && X.env.kindOf x == some .cell) = true
    · rw [if_pos e] at q
      refine .inr ⟨?_, q⟩
      rw [Bool.and_eq_true, Bool.and_eq_true] at e
      exact of_decide_eq_true e.1.1
    · rw [if_neg e] at q
      exact .inl q
  refine ⟨c.hN, c.nd, c.hK, c.calm, c.room, fun x h => ?_, fun x h => ?_, fun x h => ?_, fun x h => ?_, hb.kind, c.bltB, c.bltT, c.rng, c.glob, c.form, c.kform⟩
  · show Vis (relabel scope X.env) x
    unfold visB at h
    split at h
    · rename_i e
      rcases get x _ e with q | ⟨q, _⟩
      · exact .inl q
      · cases q
    · rename_i e
      rcases get x _ e with q | ⟨q, _⟩
      · exact .inr (.inl q)
      · cases q
    · rename_i e
      rcases get x _ e with q | ⟨_, q⟩
      · exact .inr (.inr q)
      · exact .inr (.inl q)
    · cases h
  · show Loc (relabel scope X.env) x ∧ ((scope.names.lookup x == some .cell) = true ∨ (relabel scope X.env).names.lookup x = some .local)
    unfold locB at h
    split at h
    · rename_i e
      rcases get x _ e with q | ⟨q, _⟩
      · exact ⟨.inl q, .inr q⟩
      · cases q
    · rename_i e
      rcases get x _ e with q | ⟨q, _⟩
      · exact ⟨.inr q, .inl (by rw [e]; rfl)⟩
      · cases q
    · cases h
  · show (relabel scope X.env).names.lookup x = some .globalImplicit
    unfold glB at h
    rw [Bool.and_eq_true, Bool.and_eq_true] at h
    have h := h.1.1
    split at h
    · rename_i e
      rcases get x _ e with q | ⟨q, _⟩
      · exact q
      · cases q
    · cases h
  · show (relabel scope X.env).names.lookup x = some .cell ∨ (relabel scope X.env).names.lookup x = some .free
    rcases h with h | h
    · rcases get x _ h with q | ⟨q, _⟩
      · exact .inl q
      · cases q
    · rcases get x _ h with q | ⟨_, q⟩
      · exact .inr q
      · exact .inl q
end MP

set_option Elab.async false
set_option linter.all false
set_option maxRecDepth 100000
set_option maxHeartbeats 4000000
namespace MP
open PySem PySem.Spec PyProof.Rows L2
section
variable {w : Wd} {T : Tab} {N : List Str} {C : Sem0} {n : Nat}
def Two (w : Wd) (X : Cx) (W : WX) (e : Expr) (p : EP2) : Prop := PE X e (LE w W p.e) ∧ PT X e (LT w W p.t)
theorem two {X : Cx} {W : WX} {e : Expr} {m : ME0} (hK : X.K = w.K) (he : PE X e (LE w W m)) (hi : ∀ whole, isTrue e X.env whole = (do let v ← whole; standAt e.pos; holding [v] (truthy v))) : Two w X W e (mk2 m) :=
  ⟨he, PT.imp (pt_truth he hi) fun _ _ _ h => lt_tru hK h⟩
theorem pt_w {X : Cx} {op : BoolOp} {es : List Expr} {p : Pos} {t : TT} (h : PT X (.BoolOp op es p) t) : PW X (.BoolOp op es p) t := ⟨fun whole pins s σ H Q I q => h.run pins s σ H Q I q⟩
theorem snd_var {X : Cx} {W : WX} {i : Nat} {x : Str} {p : Pos} {sc : Scope} (c : Cn w T C n X N sc) (h1 : N[i]? = some x) (h2 : visB sc x = true) (h3 : (x == ("__debug__" : Str)) = false) (h4 : (x == ("__classdict__" : Str)) = false) : PE X (.Name x p) (LE w W (ev C (.var i)).e) := by
  refine PE.imp (pe_var (i := i) (by rw [c.hN]; exact h1) (c.vis x h2) h3 h4) ?_
  rintro σ H Q ⟨F, G, σ', Q', W', S, rs, hm, hq, hw⟩
  have hm : (match nth σ' i with
    | some (some v) => Q' v G
    | _ => False) := hm
  split at hm
  · rename_i z e
    rw [nth_eq] at e
    obtain ⟨v, q1, q2⟩ := rs.2 i z e
    exact ⟨v, q1, hq F G H z v .refl S q2 hm⟩
  · exact hm.elim
theorem snd_c {X : Cx} {W : WX} {m : MV} {v : V} {e : Expr} (h : PE X e (tC v)) (r : ∀ F, Rep w F m v) : PE X e (LE w W fun _ G Q _ => Q m G) := by
  refine PE.imp h ?_
  rintro σ H Q ⟨F, G, σ', Q', W', S, rs, hm, hq, hw⟩
  exact hq F G H m v .refl S (r F) hm
theorem snd_cst {X : Cx} {W : WX} {m : MV} {k : Const} {j : Nat} {p : Pos} (h : cstB m k = true) : PE X (.Constant k j p) (LE w W fun _ G Q _ => Q m G) := by
  unfold cstB at h
  split at h
  · exact snd_c pe_non fun _ => rfl
  · rw [beq_iff_eq.mp h]
    exact snd_c pe_bl fun _ => rfl
  · rw [of_decide_eq_true h]
    exact snd_c pe_int fun _ => rfl
  · rw [Bool.and_eq_true] at h
    rw [of_decide_eq_true h.1]
    exact snd_c pe_str fun _ => ⟨rfl, okTx_ok h.2⟩
  · cases h
theorem call_nostar {m : List ME} {sc : Scope} : ∀ {es : List Expr}, chkA T N sc m es = true → noStar es = true ∧ es.length = m.length := by
  induction m with
  | nil =>
    intro es h
    cases es with
    | nil => exact ⟨rfl, rfl⟩
    | cons _ _ => simp [chkA] at h
  | cons a r ih =>
    intro es h
    cases es with
    | nil => simp [chkA] at h
    | cons e es =>
      simp only [chkA, Bool.and_eq_true, Bool.not_eq_true'] at h
      obtain ⟨q1, q2⟩ := ih h.2
      refine ⟨?_, congrArg (· + 1) q2⟩
      unfold noStar
      rw [h.1.1, q1]
      rfl
theorem attr_base {e : Expr} {a : Str} {env : Env} (h : notBare e = true) : attributeBase e a env (eval e env) = eval e env := by
  cases e with
  | Call f args kws pos =>
    cases f with
    | Name id p =>
      cases args with
      | nil =>
        cases kws with
        | nil => cases h
        | cons _ _ => rfl
      | cons _ _ => rfl
    | _ => rfl
  | _ => rfl
theorem swap_no {e : Expr} {env : Env} {l : Nat} {t : Option Expr} (h : ∀ a b c d, e ≠ .ListComp a b c d) (h2 : ∀ a b c d, e ≠ .SetComp a b c d) (h3 : ∀ a b c d f, e ≠ .DictComp a b c d f) : swapsWith e t l env = pure false := by
  cases e <;> first | rfl | exact absurd rfl (h _ _ _ _) | exact absurd rfl (h2 _ _ _ _) | exact absurd rfl (h3 _ _ _ _ _)
/-- a call with keywords, what is raised wished for at the caller's slots -/
def tCallKS (n m : Nat) (sp : Sp) (gV : List V → List V → List V) (E : L2.St → XK) (t tk : TA) : TE := fun σ H Q => t σ H fun vs H1 => tk σ H1 fun zs H2 => vs.length = n ∧ zs.length = m ∧ sp (gV vs zs) H2 Q (E σ)
theorem pe_callKS {X : Cx} {k n : Nat} {f : Addr} {fd : FuncData} {ps ks : List Str} {sp : Sp} {x : Str} {p pos : Pos} {e : Expr} {es : List Expr} {kws : List Keyword} {t tk : TA} {g : List Value → List Value → List Value} {gV : List V → List V → List V} {W : WX}
    (F : FnOk X.prog X.w X.K X.mg X.base (L2.CX X.prog X.w) k f fd ps sp) (hr : Room k X.A) (hg : Gl X x) (hm : X.mg x = some (.ref f)) (hk : PySem.W.keepIn X.K (.ref f) = true) (hb : KBn X.K fd ps n ks g gV) (tw : Takes X W)
    (ha : PA X (e :: es) t) (hkw : PK X kws tk) (hall : (backToKw pos (keywordEach kws X.env)).all (·.1.isSome) = true) (hks : (backToKw pos (keywordEach kws X.env)).filterMap (·.1) = ks)
    (hdb : (x == ("__debug__" : Str)) = false) (he : starEach (e :: es) X.env = (false, eval e X.env) :: starEach es X.env)
    (hpl : ((backTo pos (starEach (e :: es) X.env)).any (·.1) || (backToKw pos (keywordEach kws X.env)).any (·.1.isNone)) = false) :
    PE X (.Call (.Name x p) (e :: es) kws pos) (tCallKS n ks.length sp gV (WE W) t tk) := by
  refine ⟨fun pins s σ H Q I h => wpAny_Call_Name_kw (ld_glob I hg hm ?_ hdb)⟩
  refine PySem.W.callWith_KW (h₀ := X.base) I.ok.mod.kin hk hall (thn (ha.run pos pins s σ H _ I h) fun us s1 ⟨vs, H1, I1, r, q⟩ => thn (hkw.run pos pins s1 σ H1 _ I1 q) fun ws s2 ⟨zs, H2, I2, rz, l1, l2, q2⟩ => ⟨I2.kIn, ?_⟩) hpl he
  rw [hks]
  have r2 := hb.rel r rz
  refine wpAny_call (codeAny_mono (F.run X.A X.stack s2 H2 ⟨us, ks.zip ws⟩ (g us ws) (gV vs zs) Q (WE W σ) hr I2.env0 (hb.to s2 us ws I2.kIn (r.length.symm.trans l1) (rz.length.symm.trans l2)) r2 q2) fun z s' hq => ?_)
  cases z with
  | error err => exact passAt tw σ pins H2 s2 err s' I2 hq
  | ok fl =>
    cases fl with
    | ret u => exact I2.after hq
    | next => exact hq.elim
    | brk => exact hq.elim
    | cont => exact hq.elim
theorem kw_facts {pos : Pos} {env : Env} : ∀ {kws : List Keyword} {ks : List Str}, kwNames kws = some ks → (backToKw pos (keywordEach kws env)).all (·.1.isSome) = true ∧ (backToKw pos (keywordEach kws env)).filterMap (·.1) = ks ∧ (backToKw pos (keywordEach kws env)).any (·.1.isNone) = false
  | [], ks, h => by
    cases h
    exact ⟨rfl, rfl, rfl⟩
  | ⟨none, _, _⟩ :: _, _, h => by cases h
  | ⟨some nm, e, p⟩ :: r, ks, h => by
    unfold kwNames at h
    cases q : kwNames r with
    | none => rw [q] at h; cases h
    | some ks' =>
      rw [q] at h
      cases h
      obtain ⟨q1, q2, q3⟩ := kw_facts (pos := pos) (env := env) q
      exact ⟨q1, congrArg (nm :: ·) q2, q3⟩
theorem le_callKM {X : Cx} {W : WX} {f n m : Nat} {ps : List Str} {src : List PSrc} {gV : List V → List V → List V} (hg : ∀ F xs vs ys zs, RepL w F xs vs → RepL w F ys zs → xs.length = n → ys.length = m → RepL w F (asm src xs ys) (gV vs zs) ∧ (gV vs zs).length = ps.length)
    {ma mk : MA0} {σ : L2.St} {H : Hp} {Q : VK}
    (h : LE w W (fun σ G Q W => ma σ G (fun vs G1 => mk σ G1 (fun us G2 => C f (asm src vs us) G2 Q fun ex G3 => W ex σ G3) W) W) σ H Q) : tCallKS n m (spM w C f ps.length) gV (WE W) (LA w W n ma) (LA w W m mk) σ H Q := by
  obtain ⟨F, G, σ', Q', W', S, rs, hm, hq, hw⟩ := h
  refine ⟨F, G, σ', _, W', S, rs, hm, fun F1 G1 H1 xs vs e1 S1 r1 l1 h1 => ?_, hw⟩
  refine ⟨F1, G1, σ', _, W', S1, rs.ext e1.1, h1, fun F2 G2 H2 ys zs e2 S2 r2 l2 h2 => ?_, hw.ext e1⟩
  obtain ⟨q1, q2⟩ := hg F2 xs vs ys zs (r1.ext e2.1) r2 l1 l2
  refine ⟨by rw [← r1.length]; exact l1, by rw [← r2.length]; exact l2, q2, F2, G2, _, Q', _, S2, q1, h2, hq.ext (e1.trans e2), fun F3 G3 H3 ex cls d e3 S3 rx h3 => ?_⟩
  have e13 := e1.trans (e2.trans e3)
  exact hw F3 G3 H3 σ' σ ex cls d e13 S3 (rs.ext e13.1) rx h3
/-- ranges -/
theorem pi_imp {X : Cx} {tg e : Expr} {t t' : TI} (h : PI X tg e t) (i : ∀ σ H R, t' σ H R → t σ H R) : PI X tg e t' := ⟨fun p s σ H R I q => h.run p s σ H R I (i σ H R q)⟩
theorem pi_rng {X : Cx} {W : WX} {tg : Expr} {sc : Scope} (c : Cn w T C n X N sc) {it : List ME} {args : List Expr} {p pos : Pos} (hg : glB sc "range" = true) (ha : PA X args (LA w W it.length (evA C it))) (hl : args.length = 1 ∨ args.length = 2) (hl2 : args.length = it.length) (hs : noStar args = true) :
    PI X tg (.Call (.Name "range" p) args [] pos) (LI w W fun σ G k W => evA C it σ G (fun vs G1 => srcM .range vs G1 fun xs inv => k xs inv G1) W) := by
  have go : ∀ {F1 : Hp} {G1 : MH} {H1 : Hp} {xs : List MV} {vs : List V} {k : List MV → (MH → Prop) → MH → Prop} {R : It → Hp → Prop}, Sim w F1 G1 H1 → RepL w F1 xs vs → OkI w F1 G1 H1 k R → srcM .range xs G1 (fun ys inv => k ys inv G1) →
      (∃ j : Int, vs = [.int j] ∧ -(2 ^ 62) ≤ j ∧ j < 2 ^ 62 ∧ R (Itr 0 j.toNat) H1) ∨ (∃ i j : Int, vs = [.int i, .int j] ∧ (-(2 ^ 62) ≤ i ∧ i < 2 ^ 62 ∧ -(2 ^ 62) ≤ j ∧ j < 2 ^ 62) ∧ R (Itr i (j - i).toNat) H1) := by
    intro F1 G1 H1 xs vs k R S r hq h
    unfold srcM at h
    simp only at h
    split at h
    · rename_i heq
      cases heq
    · obtain ⟨v, rfl, r1⟩ := repL1 r
      rename_i j _
      have e1 : v = .int j := r1
      subst e1
      refine .inl ⟨j, rfl, h.1, by omega, hq F1 _ H1 _ (fun _ => True) _ .refl S (wk_range (by omega)) ?_⟩
      have e : (fun i : Nat => MV.int (0 + (i : Int))) = fun i : Nat => MV.int i := by
        funext i
        rw [Int.zero_add]
      rw [e]
      exact h.2.2
    · obtain ⟨v, u, rfl, r1, r2⟩ := repL2 r
      rename_i a b _
      have e1 : v = .int a := r1
      have e2 : u = .int b := r2
      subst e1 e2
      exact .inr ⟨a, b, rfl, ⟨h.1.1, h.1.2.1, h.1.2.2.1, h.1.2.2.2.1⟩, hq F1 _ H1 _ (fun _ => True) _ .refl S (wk_range (by have := h.1.2.2.2.2; omega)) h.2⟩
    · exact h.elim
  have gl := c.gl _ hg
  have hm := c.rng
  match args, ha, hl, hl2, hs with
  | [a], ha, _, hl2, hs =>
    have q : starEach [a] X.env = [(false, eval a X.env)] := star_cons (by simpa [noStar] using hs)
    refine pi_imp (pi_range1 gl hm ha q) ?_
    rintro σ H R ⟨F, G, σ', Q', W', S, rs, hm, hq, hw⟩
    refine ⟨F, G, σ', _, W', S, rs, hm, fun F1 G1 H1 xs vs e1 S1 r1 l1 h1 => ?_, hw⟩
    rcases go S1 r1 (fun F2 G2 H2 xs inv J e2 => hq F2 G2 H2 xs inv J (e1.trans e2)) h1 with q | ⟨i, j, q, _⟩
    · exact q
    · have z := r1.length
      rw [q, l1, ← hl2] at z
      simp at z
  | [a, b], ha, _, hl2, hs =>
    have hs' : isStar a = false ∧ isStar b = false := by simpa [noStar] using hs
    have q2 : starEach [b] X.env = [(false, eval b X.env)] := star_cons hs'.2
    have q : starEach [a, b] X.env = [(false, eval a X.env), (false, eval b X.env)] := by rw [star_cons hs'.1, q2]
    refine pi_imp (pi_range2 gl hm ha q q2) ?_
    rintro σ H R ⟨F, G, σ', Q', W', S, rs, hm, hq, hw⟩
    refine ⟨F, G, σ', _, W', S, rs, hm, fun F1 G1 H1 xs vs e1 S1 r1 l1 h1 => ?_, hw⟩
    rcases go S1 r1 (fun F2 G2 H2 xs inv J e2 => hq F2 G2 H2 xs inv J (e1.trans e2)) h1 with ⟨j, q, _⟩ | q
    · have z := r1.length
      rw [q, l1, ← hl2] at z
      simp at z
    · exact q
  | [], _, hl, _, _ => simp at hl
  | _ :: _ :: _ :: _, _, hl, _, _ => simp at hl
theorem pi_v {X : Cx} {W : WX} {tg iter : Expr} {me : ME0} (hK : X.K = w.K) (he : PE X iter (LE w W me)) : PI X tg iter (LI w W fun σ G k W => me σ G (fun v G1 => srcM .val [v] G1 fun xs inv => k xs inv G1) W) := by
  refine pi_imp (pi_val he) ?_
  rintro σ H R ⟨F, G, σ', Q', W', S, rs, hm, hq, hw⟩
  refine ⟨F, G, σ', _, W', S, rs, hm, fun F1 G1 H1 x' x e1 S1 r1 h1 => ?_, hw⟩
  rw [hK]
  exact val_iter S1 r1 h1 fun xs inv J wk hk => hq F1 G1 H1 xs inv J e1 S1 wk hk
theorem fold_no {e : Expr} {env : Env} (h : noSet e = true) : ∀ x, foldedSetIterable e env x = pure x := by
  cases e <;> first | (intro x; rfl) | cases h
theorem pt_if {X : Cx} {c a b : Expr} {p : Pos} {mc ma mb : MT0} {W : WX} (hc : PT X c (LT w W mc)) (ha : PT X a (LT w W ma)) (hb : PT X b (LT w W mb)) : PT X (.IfExp c a b p) (LT w W fun σ G Q W => mc σ G (fun t G1 => Br t (ma σ G1 Q W) (mb σ G1 Q W)) W) := by
  refine ⟨fun pins s σ H Q I h => ?_⟩
  obtain ⟨F, G, σ', Q', W', S, rs, hm, hq, hw⟩ := h
  show wpAny _ _ (isTrue c X.env (eval c X.env) >>= fun d => if d = true then isTrue a X.env (eval a X.env) else isTrue b X.env (eval b X.env)) _ _ _
  refine wpAny_bind (thn (hc.run pins s σ H (fun t H1 => (if t = true then LT w W ma σ H1 Q else LT w W mb σ H1 Q)) I ⟨F, G, σ', _, W', S, rs, hm, fun F1 G1 H1 t e1 S1 h1 => ?_, hw⟩) fun d s1 ⟨H1, I1, q1⟩ => ?_)
  · cases t with
    | true =>
      rw [if_pos rfl]
      exact ⟨F1, G1, σ', Q', W', S1, rs.ext e1.1, h1, hq.ext e1, hw.ext e1⟩
    | false =>
      rw [if_neg Bool.false_ne_true]
      exact ⟨F1, G1, σ', Q', W', S1, rs.ext e1.1, h1, hq.ext e1, hw.ext e1⟩
  · cases d with
    | true => exact ha.run pins s1 σ H1 Q I1 (by simpa using q1)
    | false => exact hb.run pins s1 σ H1 Q I1 (by simpa using q1)
theorem blk_of {X : Cx} {sc scope : Scope} {own : List (Str × Nat)} (c : Cn w T C n X N sc) (h : blkC N sc scope own = true) : BlkOk X.N X.env.scope scope own := by
  obtain ⟨h1, h2, h3, h4, h5⟩ := blkOk_by h
  exact ⟨h1, h2, by rw [c.hN]; exact h3, fun y hy e => c.free _ (h4 y hy e), by rw [c.hN]; exact h5⟩
theorem own_map (own : List Nat) : (own.map fun i => ((N.getD i Str.empty, i) : Str × Nat)).map (·.2) = own := by
  rw [List.map_map]
  exact List.map_id' own
end
end MP

set_option Elab.async false
set_option linter.all false
set_option maxRecDepth 100000
set_option maxHeartbeats 8000000
namespace MP
open PySem PySem.Spec PyProof.Rows L2
section
variable {w : Wd} {T : Tab} {N : List Str} {C : Sem0} {n : Nat}
/-- the tests of a comprehension, any wish -/
def evC0 (C : Sem0) : List ME → MSt → MH → (Bool → MH → Prop) → MW → Prop
  | [], _, G, k, _ => k true G
  | c :: _, σ, G, k, W => (ev C c).t σ G k W
theorem evC0_eq (C : Sem0) (ms : List ME) (σ : MSt) (G : MH) (k : Bool → MH → Prop) : evC C ms σ G k = evC0 C ms σ G k fun _ _ _ => False := by
  cases ms <;> rfl
theorem pts_imp {X : Cx} {es : List Expr} {t t' : TT} (h : PTs X es t) (i : ∀ σ H Q, t' σ H Q → t σ H Q) : PTs X es t' := ⟨fun p s σ H Q I q => h.run p s σ H Q I (i σ H Q q)⟩
theorem pk_imp {X : Cx} {es : List Keyword} {t t' : TA} (h : PK X es t) (i : ∀ σ H Q, t' σ H Q → t σ H Q) : PK X es t' := ⟨fun ps p s σ H Q I q => h.run ps p s σ H Q I (i σ H Q q)⟩
/-- the trees of a dict's pairs -/
def trsM (w : Wd) (W : WX) (C : Sem0) : List MK → List ME → List (TE × TE)
  | k :: ks, a :: as => ((fun _ H Q => Q (kV (kOf k)) H), LE w W (ev C a).e) :: trsM w W C ks as
  | _, _ => []
theorem keysB_facts : ∀ {ks : List MK} {keys : List (Option Expr)}, keysB ks keys = true → keys.all (·.isSome) = true ∧ keys.length = ks.length
  | [], [], _ => ⟨rfl, rfl⟩
  | [], _ :: _, h => by unfold keysB at h; cases h
  | _ :: _, [], h => by unfold keysB at h; cases h
  | k :: ks, o :: es, h => by
    unfold keysB at h
    split at h
    · rename_i q1 q2; cases q1
    · rename_i q1 q2
      injection q1 with q1 q3
      injection q2 with q2 q4
      subst q2 q4 q1 q3
      rw [Bool.and_eq_true] at h
      obtain ⟨g1, g2⟩ := keysB_facts h.2
      refine ⟨?_, by rw [List.length_cons, List.length_cons, g2]⟩
      rw [List.all_cons, g1]
      rfl
    · cases h
theorem pe_key {X : Cx} {k : MK} {c : Const} {j : Nat} {p : Pos} (h : keyB k c = true) : PE X (.Constant c j p) (fun _ H Q => Q (kV (kOf k)) H) := by
  unfold keyB at h
  split at h
  · rw [of_decide_eq_true h]
    exact pe_int
  · rw [of_decide_eq_true h]
    exact pe_str
  · cases h
theorem pps_stop {X : Cx} {W : WX} {pos : Pos} {keys : List (Option Expr)} {ks : List MK} (hn : ks.length = ([] : List ME).length) (hk : keysB ks keys = true) : PPs X pos keys [] (trsM w W C ks []) := by
  cases ks with
  | nil =>
    cases keys with
    | nil => exact pps_nil
    | cons _ _ => unfold keysB at hk; cases hk
  | cons _ _ => cases hn
theorem valV_in' {κ : Type} [DecidableEq κ] {kvs : List (κ × V)} {k : κ} {v : V} (h : valV kvs k = some v) : k ∈ kvs.map (·.1) := by
  unfold valV at h
  cases e : kvs.find? fun p => decide (p.1 = k) with
  | none => simp [e] at h
  | some p =>
    have h1 := List.mem_of_find?_eq_some e
    have h2 := List.find?_some e
    exact List.mem_map.mpr ⟨p, h1, of_decide_eq_true h2⟩
theorem pps_step {X : Cx} {W : WX} {pos : Pos} {keys : List (Option Expr)} {ks : List MK} {m : ME} {ms : List ME} {e0 : Expr} {er : List Expr} (hl : ks.length = (m :: ms).length) (h : keysB ks keys = true) (he : PE X e0 (LE w W (ev C m).e))
    (hr : ∀ keys ks, ks.length = ms.length → keysB ks keys = true → PPs X pos keys er (trsM w W C ks ms)) : PPs X pos keys (e0 :: er) (trsM w W C ks (m :: ms)) := by
  cases ks with
  | nil => cases hl
  | cons k kr =>
    cases keys with
    | nil => unfold keysB at h; cases h
    | cons o es =>
      unfold keysB at h
      split at h
      · rename_i q1 q2; cases q1
      · rename_i q1 q2
        injection q1 with q1 q3
        injection q2 with q2 q4
        subst q2 q4 q1 q3
        rw [Bool.and_eq_true] at h
        exact pps_cons (pe_key h.1) he (hr _ _ (by simpa using hl) h.2)
      · cases h
theorem kOf_inj {a b : MK} (h : kOf a = kOf b) : a = b := by
  cases a <;> cases b <;> simp [kOf] at h ⊢
  · exact h
  · exact h
theorem nd_map : ∀ (ks : List MK), ks.Nodup → (ks.map kOf).Nodup
  | [], _ => List.nodup_nil
  | k :: ks, h => by
    rw [List.nodup_cons] at h
    rw [List.map_cons, List.nodup_cons]
    refine ⟨fun z => ?_, nd_map ks h.2⟩
    obtain ⟨y, hy, e⟩ := List.mem_map.mp z
    rw [kOf_inj e] at hy
    exact h.1 hy
theorem mergeK_new : ∀ (more kvs : List (Key × V)), ((kvs ++ more).map (·.1)).Nodup → mergeK kvs more = kvs ++ more
  | [], kvs, _ => by rw [List.append_nil]; rfl
  | p :: r, kvs, h => by
    have h1 : valV kvs p.1 = none := by
      cases e : valV kvs p.1 with
      | none => rfl
      | some v =>
        exfalso
        have q := valV_in' e
        rw [List.map_append, List.nodup_append] at h
        exact h.2.2 p.1 q p.1 (by simp) rfl
    show mergeK (putK kvs p.1 p.2) r = _
    rw [putK_new _ h1, mergeK_new r _ (by rw [List.append_assoc]; exact h), List.append_assoc]
    rfl
theorem Sim.junk {F : Hp} {G : MH} {H : Hp} {p : Addr} {o : HO} (S : Sim w F G H) (h : H p = none) : Sim w F G (upd H p o) := by
  refine ⟨fun a u q => ?_, fun a g q => ?_⟩
  · rw [upd_ne (ne_of_none (S.sub a u q) h)]
    exact S.sub a u q
  · obtain ⟨h1, o', h2, h3⟩ := S.mu a g q
    exact ⟨h1, o', by rw [upd_ne (ne_of_none h2 h)]; exact h2, h3⟩
theorem Fut.junk {F : Hp} {G : MH} {H : Hp} {p : Addr} {o : HO} (h : H p = none) : Fut F G H F G (upd H p o) := ⟨.refl, fun a u h1 h2 h3 => by
  rw [upd_ne (ne_of_none h1 h)]
  exact ⟨h1, h2, h3⟩⟩
theorem le_pairs {W : WX} : ∀ {ks : List MK} {as : List ME} {F : Hp} {G : MH} {H : Hp} {σ' : MSt} {σ : L2.St} {Q' : List MV → MH → Prop} {W' : MW} {R : List (V × V) → Hp → Prop}, ks.length = as.length → Sim w F G H → RepS w F σ' σ → evA C as σ' G Q' W' → OkW w F G H W' W →
    (∀ F' G' H' xs vs, Fut F G H F' G' H' → Sim w F' G' H' → RepL w F' xs vs → xs.length = as.length → Q' xs G' → R ((ks.map fun k => kV (kOf k)).zip vs) H') → tPairs (trsM w W C ks as) σ H R
  | [], [], F, G, H, σ', σ, Q', W', R, _, S, rs, hm, hw, k => k F G H [] [] .refl S rfl rfl hm
  | [], _ :: _, _, _, _, _, _, _, _, _, hl, _, _, _, _, _ => by cases hl
  | _ :: _, [], _, _, _, _, _, _, _, _, hl, _, _, _, _, _ => by cases hl
  | k0 :: ks, a :: as, F, G, H, σ', σ, Q', W', R, hl, S, rs, hm, hw, k => by
    refine ⟨F, G, σ', _, W', S, rs, hm, fun F1 G1 H1 x v e1 S1 r1 h1 => ?_, hw⟩
    exact le_pairs (Nat.succ.inj hl) S1 (rs.ext e1.1) h1 (hw.ext e1) fun F2 G2 H2 xs vs e2 S2 r2 l2 h2 => k F2 G2 H2 (x :: xs) (v :: vs) (e1.trans e2) S2 ⟨v, vs, rfl, r1.ext e2.1, r2⟩ (congrArg (· + 1) l2) h2
theorem zip_kvs : ∀ {ks : List MK} {vs : List V}, ks.length = vs.length → ∃ kvs : List (Key × V), (ks.map fun k => kV (kOf k)).zip vs = kvs.map (fun kv => (kV kv.1, kv.2)) ∧ kvs.map (·.1) = ks.map kOf ∧ kvs.map (·.2) = vs ∧ kvs.length = ks.length
  | [], [], _ => ⟨[], rfl, rfl, rfl, rfl⟩
  | [], _ :: _, h => by cases h
  | _ :: _, [], h => by cases h
  | k :: ks, v :: vs, h => by
    obtain ⟨kvs, q1, q2, q3, q4⟩ := zip_kvs (Nat.succ.inj h)
    refine ⟨(kOf k, v) :: kvs, ?_, ?_, ?_, ?_⟩
    · rw [List.map_cons, List.zip_cons_cons, q1]; rfl
    · rw [List.map_cons, List.map_cons, q2]
    · rw [List.map_cons, q3]
    · rw [List.length_cons, List.length_cons, q4]
theorem le_disp {W : WX} {ks : List MK} {as : List ME} {σ : L2.St} {H : Hp} {Q : VK} (hn : ks.length ≤ 15) (hl : ks.length = as.length) (nd : ks.Nodup) (h : LE w W (fun σ G Q W => evA C as σ G (fun vs G1 => Q (.dct ks vs) G1) W) σ H Q) : tDisp (trsM w W C ks as) σ H Q := by
  obtain ⟨F, G, σ', Q', W', S, rs, hm, hq, hw⟩ := h
  intro p hp
  refine le_pairs hl (S.junk hp) rs hm (hw.ext (.junk hp)) fun F' G' H' xs vs e1 S1 r1 l1 h1 => ?_
  obtain ⟨g1, g2, g3⟩ := e1.2 p (.dK []) upd_same (S.freeF hp) (S.freeG hp)
  obtain ⟨kvs, q1, q2, q3, q4⟩ := zip_kvs (ks := ks) (vs := vs) (by rw [← r1.length, l1, hl])
  refine ⟨g1, kvs, q1, by omega, ?_⟩
  have em : mergeK [] kvs = kvs := by
    refine mergeK_new kvs [] ?_
    rw [List.nil_append, q2]
    exact nd_map ks nd
  rw [em]
  have e2 : Fut F G H (upd F' p (.dK kvs)) G' (upd H' p (.dK kvs)) := by
    refine ⟨(e1.1).trans (ext_upd g2), fun a o z1 z2 z3 => ?_⟩
    have ne : a ≠ p := ne_of_none z1 hp
    obtain ⟨y1, y2, y3⟩ := e1.2 a o (by rw [upd_ne ne]; exact z1) z2 z3
    rw [upd_ne ne, upd_ne ne]
    exact ⟨y1, y2, y3⟩
  have S2 : Sim w (upd F' p (.dK kvs)) G' (upd H' p (.dK kvs)) := by
    refine ⟨fun a u q => ?_, fun a g q => ?_⟩
    · by_cases e : a = p
      · subst e
        rw [upd_same] at q ⊢
        exact q
      · rw [upd_ne e] at q ⊢
        exact S1.sub a u q
    · have e : a ≠ p := fun z => by
        rw [z, g3] at q
        cases q
      obtain ⟨y1, o', y2, y3⟩ := S1.mu a g q
      exact ⟨by rw [upd_ne e]; exact y1, o', by rw [upd_ne e]; exact y2, y3.ext (ext_upd g2)⟩
  exact hq _ _ _ (.dct ks xs) _ e2 S2 ⟨p, kvs, rfl, upd_same, q2, by rw [q3]; exact r1.ext (ext_upd g2)⟩ h1
theorem le_dnew {W : WX} {σ : L2.St} {H : Hp} {Q : VK} (h : LE w W (fun σ G Q W => evA C [] σ G (fun vs G1 => Q (.dct [] vs) G1) W) σ H Q) : tDNewK σ H Q := by
  obtain ⟨F, G, σ', Q', W', S, rs, hm, hq, hw⟩ := h
  intro p hp
  exact hq _ G _ (.dct [] []) _ (.newF (S.freeF hp) hp) (S.newF hp) ⟨p, [], rfl, upd_same, rfl, rfl⟩ hm
theorem kw_len : ∀ {kws : List Keyword} {ks : List Str}, kwNames kws = some ks → kws.length = ks.length
  | [], _, h => by cases h; rfl
  | ⟨none, _, _⟩ :: _, _, h => by cases h
  | ⟨some nm, e, p⟩ :: r, ks, h => by
    unfold kwNames at h
    cases q : kwNames r with
    | none => rw [q] at h; cases h
    | some ks' =>
      rw [q] at h
      cases h
      exact congrArg (· + 1) (kw_len q)
theorem lc_pe {X : Cx} {sc scope : Scope} {W : WX} {g : MG} {mi : MI0} {cs : List ME} {el : ME} {own : List Nat} {elt tg iter : Expr} {ifs : List Expr} {pos : Pos} (c : Cn w T C n X N sc) (hb : BlkOk X.N X.env.scope scope (own.map fun i => (N.getD i Str.empty, i))) (hv : ∀ i ∈ g.sl, i ∈ own)
    (hg : ∀ X', Cn w T C n X' N scope → PG X' tg (gOf w.K g)) (ht : ∀ X', Cn w T C n X' N scope → PTs X' ifs (LT w noW fun σ G Q W' => evC0 C cs σ G Q W')) (he : ∀ X', Cn w T C n X' N scope → PE X' elt (LE w noW (ev C el).e))
    (hf : ∀ x, foldedSetIterable iter X.env x = pure x) (tk : Takes X W) (hi : PI X tg iter (LI w W mi)) :
    PE X (.ListComp elt [⟨tg, iter, ifs, 0⟩] scope pos) (LE w W fun σ G Q W => mi σ G (fun xs inv G1 => lcM g (fun σ1 G2 k => evC C cs σ1 G2 k) (fun σ1 G2 k => (ev C el).e σ1 G2 k fun _ _ _ => False) (wipeM σ own) inv xs [] G1 fun ys G3 => newL ys G3 Q) W) := by
  have P := pe_lc (pos := pos) c.calm c.nd hi hb (fun s H A cl fp => hg _ (c.blk hb s H A cl fp)) (fun s H A cl fp => ht _ (c.blk hb s H A cl fp)) (fun s H A cl fp => he _ (c.blk hb s H A cl fp)) hf
  refine PE.imp P fun σ H Q q => ?_
  rw [own_map]
  have e : (fun (σ1 : MSt) (G2 : MH) (k : Bool → MH → Prop) => evC C cs σ1 G2 k) = fun σ1 G2 k => evC0 C cs σ1 G2 k fun _ _ _ => False := by
    funext σ1 G2 k
    exact evC0_eq C cs σ1 G2 k
  rw [e] at q
  exact le_lc hv q
mutual
theorem sndE : ∀ (m : ME) {sc : Scope} {e : Expr} {X : Cx}, chkE T N sc m e = true → Cn w T C n X N sc → ∀ W, Takes X W → Two w X W e (ev C m)
  | .var i, sc, e, X, h, c, W, tk => by
    unfold chkE at h
    split at h
    · simp only [Bool.and_eq_true, decide_eq_true_eq, Bool.not_eq_true'] at h
      exact two c.hK (snd_var c h.1.1.1 h.1.1.2 h.1.2 h.2) (fun _ => rfl)
    · cases h
  | .cst v, sc, e, X, h, c, W, tk => by
    unfold chkE at h
    split at h
    · exact two c.hK (snd_cst h) (fun _ => rfl)
    · cases h
  | .glob x v, sc, e, X, h, c, W, tk => by
    unfold chkE at h
    split at h
    · simp only [Bool.and_eq_true, decide_eq_true_eq, List.any_eq_true] at h
      obtain ⟨⟨h1, h2⟩, p, hp, h3, h4⟩ := h
      subst h1
      obtain ⟨z, u, q1, q2, q3⟩ := c.glob p hp
      rw [h3] at q1
      rw [flatEq_eq h4] at q3
      exact two c.hK (snd_c (pe_glob (c.gl _ h2) q1 q2 (gl_dbg h2).1) q3) (fun _ => rfl)
    · cases h
  | .ty t, sc, e, X, h, c, W, tk => by
    unfold chkE at h
    split at h
    · simp only [Bool.and_eq_true, decide_eq_true_eq] at h
      obtain ⟨⟨h1, h2⟩, h3⟩ := h
      subst h1
      exact two c.hK (snd_c (v := .ty t.nm) (pe_bltn (c.gl _ h2) (c.bltT t h3) (ty_boot t h3) rfl (gl_dbg h2).2 (gl_dbg h2).1) fun _ => rfl) (fun _ => rfl)
    · cases h
  | .nop, sc, e, X, h, c, W, tk => by
    unfold chkE at h
    cases h
  | .bin op a b, sc, e, X, h, c, W, tk => by
    unfold chkE at h
    split at h
    · simp only [Bool.and_eq_true, decide_eq_true_eq] at h
      obtain ⟨⟨h1, h2⟩, h3⟩ := h
      subst h1
      exact two c.hK (PE.imp (pe_op (op_bin _ c.hK) (sndE a h2 c W tk).1 (sndE b h3 c W tk).1) fun _ _ _ q => le_op q) (fun _ => rfl)
    · cases h
  | .neg a, sc, e, X, h, c, W, tk => by
    unfold chkE at h
    split at h
    · exact two c.hK (PE.imp (pe_un un_neg (sndE a h c W tk).1) fun _ _ _ q => le_neg q) (fun _ => rfl)
    · cases h
  | .cmp op a b, sc, e, X, h, c, W, tk => by
    unfold chkE at h
    split at h
    · simp only [Bool.and_eq_true, decide_eq_true_eq, Bool.not_eq_true'] at h
      obtain ⟨⟨⟨h1, h2⟩, h3⟩, h4⟩ := h
      subst h1
      exact ⟨PE.imp (pe_cmpR (op_cmp _ c.hK c.room) (sndE a h3 c W tk).1 (sndE b h4 c W tk).1 h2) fun _ _ _ q => le_op q,
        PT.imp (pt_cmpR (op_cmp _ c.hK c.room) (sndE a h3 c W tk).1 (sndE b h4 c W tk).1 h2) fun _ _ _ q => lt_cmp q⟩
    · cases h
  | .chain o1 o2 a b d, sc, e, X, h, c, W, tk => by
    unfold chkE at h
    split at h
    · simp only [Bool.and_eq_true, decide_eq_true_eq, Bool.not_eq_true'] at h
      obtain ⟨⟨⟨⟨⟨h1, h2⟩, h3⟩, h4⟩, h5⟩, h6⟩ := h
      subst h1 h2
      exact ⟨PE.imp (pe_chain (op_cmp _ c.hK c.room) (op_cmp _ c.hK c.room) (sndE a h4 c W tk).1 (sndE b h5 c W tk).1 (sndE d h6 c W tk).1 h3) fun _ _ _ q => le_chain q,
        PT.imp (pt_chain (op_cmp _ c.hK c.room) (op_cmp _ c.hK c.room) (sndE a h4 c W tk).1 (sndE b h5 c W tk).1 (sndE d h6 c W tk).1 h3) fun _ _ _ q => lt_chain q⟩
    · cases h
  | .and a b, sc, e, X, h, c, W, tk => by
    unfold chkE at h
    split at h
    · rename_i x y r p
      rw [Bool.and_eq_true] at h
      have ha := sndE a h.1 c W tk
      have hb : Two w X W (.BoolOp .And (y :: r) p) (ev C b) := by
        have h2 := h.2
        split at h2
        · have q := sndE b h2 c W tk
          exact ⟨pe_one q.1, (pw_and1 q.2).pt⟩
        · exact sndE b h2 c W tk
      exact ⟨PE.imp (pe_and ha.1 hb.1) fun _ _ _ q => le_and q, PT.imp (pw_and ha.2 (pt_w hb.2)).pt fun _ _ _ q => lt_and q⟩
    · cases h
  | .or a b, sc, e, X, h, c, W, tk => by
    unfold chkE at h
    split at h
    · rename_i x y r p
      rw [Bool.and_eq_true] at h
      have ha := sndE a h.1 c W tk
      have hb : Two w X W (.BoolOp .Or (y :: r) p) (ev C b) := by
        have h2 := h.2
        split at h2
        · have q := sndE b h2 c W tk
          exact ⟨pe_one q.1, (pw_or1 q.2).pt⟩
        · exact sndE b h2 c W tk
      exact ⟨PE.imp (pe_or ha.1 hb.1) fun _ _ _ q => le_or q, PT.imp (pw_or ha.2 (pt_w hb.2)).pt fun _ _ _ q => lt_or q⟩
    · cases h
  | .not a, sc, e, X, h, c, W, tk => by
    unfold chkE at h
    split at h
    · have q := sndE a h c W tk
      exact ⟨PE.imp (pe_not q.1) fun _ _ _ q => le_not q, PT.imp (pt_not q.2) fun _ _ _ q => lt_not q⟩
    · cases h
  | .ite d a b, sc, e, X, h, c, W, tk => by
    unfold chkE at h
    split at h
    · simp only [Bool.and_eq_true] at h
      exact ⟨PE.imp (pe_ifExp (sndE d h.1.1 c W tk).2 (sndE a h.1.2 c W tk).1 (sndE b h.2 c W tk).1) fun _ _ _ q => le_if q, pt_if (sndE d h.1.1 c W tk).2 (sndE a h.1.2 c W tk).2 (sndE b h.2 c W tk).2⟩
    · cases h
  | .prim p as, sc, e, X, h, c, W, tk => by
    unfold chkE at h
    split at h
    · rename_i f pf args pos
      simp only [Bool.and_eq_true, decide_eq_true_eq, Bool.not_eq_true'] at h
      obtain ⟨⟨⟨h1, h2⟩, h3⟩, h4⟩ := h
      subst h1
      obtain ⟨ns, hl⟩ := call_nostar h3
      have ha := (sndA as h3 c W tk).1
      cases args with
      | nil => cases h4
      | cons a0 as0 =>
        have hs : isStar a0 = false ∧ noStar as0 = true := by simpa [noStar] using ns
        refine two c.hK ?_ (fun _ => rfl)
        have hc := call_prim p c.hK c.room c.calm
        unfold Prim.val at hc
        rcases prim_boot p with ⟨q1, q2⟩ | ⟨q1, q2⟩
        · rw [q1] at hc
          exact PE.imp (pe_callB hc (c.gl _ h2) (c.bltB p) q2 ha (gl_dbg h2).2 (gl_dbg h2).1 (star_cons hs.1) (star_any hs.2).1) fun _ _ _ q => la_call q
        · rw [q1] at hc
          exact PE.imp (pe_callTy hc (c.gl _ h2) (c.bltB p) q2 ha (gl_dbg h2).2 (gl_dbg h2).1 (star_cons hs.1) (star_any hs.2).1) fun _ _ _ q => la_call q
    · cases h
  | .meth m o as, sc, e, X, h, c, W, tk => by
    unfold chkE at h
    split at h
    · rename_i x1 a1 ap args pos
      simp only [Bool.and_eq_true, decide_eq_true_eq] at h
      obtain ⟨⟨⟨⟨⟨h1, h2⟩, h3⟩, h4⟩, h5⟩, h6⟩ := h
      subst h1
      obtain ⟨ns, hl⟩ := call_nostar h4
      have ho := (sndE o h2 c W tk).1
      have ha := (sndA as h4 c W tk).1
      have hm := call_meth m c.hK c.room c.calm
      cases args with
      | nil =>
        cases as with
        | nil => exact two c.hK (PE.imp (pe_bm0 m.plain m.slot m.descr hm ho (attr_base h3) h5) fun _ _ _ q => la_meth0 c.hK q) (fun _ => rfl)
        | cons _ _ => cases hl
      | cons a0 as0 =>
        have hs : isStar a0 = false ∧ noStar as0 = true := by simpa [noStar] using ns
        refine two c.hK (PE.imp (pe_bm m.plain m.slot m.descr hm ho ha (attr_base h3) ?_ h5 (star_cons hs.1) (star_any hs.2).1) fun _ _ _ q => la_meth c.hK q) (fun _ => rfl)
        rw [(star_any ns).2, Bool.true_and, Bool.and_eq_true]
        refine ⟨rfl, decide_eq_true ?_⟩
        show (a0 :: as0).length + 0 + 0 < 30
        omega
    · cases h
  | .idx a i, sc, e, X, h, c, W, tk => by
    unfold chkE at h
    split at h
    · rename_i x y p
      simp only [Bool.and_eq_true] at h
      refine two c.hK (PE.imp (pe_ix (ix_any c.hK) (sndE a h.1 c W tk).1 (sndE i h.2 c W tk).1 ?_) fun _ _ _ q => le_op q) (fun _ => rfl)
      have h2 := h.2
      cases y with
      | Slice => cases i <;> simp [chkE] at h2
      | _ => exact fun _ _ => rfl
    · cases h
  | .slice a lo hi, sc, e, X, h, c, W, tk => by
    unfold chkE at h
    split at h
    · simp only [Bool.and_eq_true] at h
      obtain ⟨⟨h1, h2⟩, h3⟩ := h
      refine two c.hK (PE.imp (pe_slice (sl_any c.hK) (sndE a h1 c W tk).1 (tl := LO w W fun σ G k W => opt0 (isNop lo) (ev C lo).e σ G k W) (th := LO w W fun σ G k W => opt0 (isNop hi) (ev C hi).e σ G k W) ?_ ?_) fun _ _ _ q => le_slice q) (fun _ => rfl)
      · split at h2
        · rw [h2]
          exact po_nop
        · rw [Bool.and_eq_true, Bool.not_eq_true'] at h2
          rw [h2.1]
          exact po_e (sndE lo h2.2 c W tk).1
      · split at h3
        · rw [h3]
          exact po_nop
        · rw [Bool.and_eq_true, Bool.not_eq_true'] at h3
          rw [h3.1]
          exact po_e (sndE hi h3.2 c W tk).1
    · cases h
  | .tup as, sc, e, X, h, c, W, tk => by
    unfold chkE at h
    split at h
    · simp only [Bool.and_eq_true, decide_eq_true_eq] at h
      obtain ⟨ns, hl⟩ := call_nostar h.1
      exact two c.hK (PE.imp (pe_tup (sndA as h.1 c W tk).1) fun _ _ _ q => la_tup (by rw [← hl]; exact h.2) q) (fun _ => rfl)
    · cases h
  | .lst as, sc, e, X, h, c, W, tk => by
    unfold chkE at h
    split at h
    · simp only [Bool.and_eq_true, decide_eq_true_eq] at h
      obtain ⟨ns, hl⟩ := call_nostar h.1
      exact two c.hK (PE.imp (pe_lst (sndA as h.1 c W tk).1) fun _ _ _ q => la_lst (by rw [← hl]; exact h.2) q) (fun _ => rfl)
    · cases h
  | .dct ks as, sc, e, X, h, c, W, tk => by
    unfold chkE at h
    split at h
    · rename_i keys values pos
      simp only [Bool.and_eq_true, decide_eq_true_eq] at h
      obtain ⟨⟨⟨⟨h1, h2⟩, h3⟩, h4⟩, h5⟩ := h
      have hp := (sndA as h2 c W tk).2.2.2.2 pos keys ks h3 h1
      obtain ⟨_, hl⟩ := call_nostar h2
      refine two c.hK ?_ (fun _ => rfl)
      cases keys with
      | nil =>
        cases ks with
        | nil =>
          cases as with
          | nil =>
            cases values with
            | nil => exact PE.imp pe_dnewK fun _ _ _ q => le_dnew q
            | cons _ _ => cases hl
          | cons _ _ => cases h3
        | cons _ _ => cases h1
      | cons k0 kr =>
        obtain ⟨g1, g2⟩ := keysB_facts h1
        exact PE.imp (pe_disp hp g1 (by rw [g2, h3, hl]) (by simp) h4) fun _ _ _ q => le_disp (by omega) h3 h5 q
    · cases h
  | .call f as dms, sc, e, X, h, c, W, tk => by
    unfold chkE at h
    split at h
    · rename_i g1 gp args pos
      simp only [Bool.and_eq_true, decide_eq_true_eq, List.any_eq_true, Bool.not_eq_true'] at h
      obtain ⟨⟨⟨h1, h2⟩, h3⟩, p, hp, ⟨⟨h4, h5⟩, h6⟩, h7⟩ := h
      obtain ⟨a, fd, ps, ds, dvs, q1, q2, q3, q4, q5, q6, q7⟩ := c.form p hp
      rw [h5] at q1
      rw [h4] at q3
      rw [flatEqL_eq h7] at q6
      rw [h6] at q7
      obtain ⟨ns, hl⟩ := call_nostar h2
      have ha := (sndA as h2 c W tk).1
      cases args with
      | nil => cases h3
      | cons a0 as0 =>
        have hs : isStar a0 = false ∧ noStar as0 = true := by simpa [noStar] using ns
        exact two c.hK (PE.imp (pe_callSD q3 c.room (c.gl _ h1) q1 q2 q4 q5 (fun σ => passAt tk σ) ha (gl_dbg h1).1 (star_cons hs.1) (star_any hs.2).1) fun _ _ _ q => le_callM q6 q7 q) (fun _ => rfl)
    · cases h
  | .callK f as kvs src, sc, e, X, h, c, W, tk => by
    unfold chkE at h
    split at h
    · rename_i g1 gp args kws pos
      simp only [Bool.and_eq_true, Bool.not_eq_true'] at h
      obtain ⟨⟨⟨⟨h1, h2⟩, h3⟩, h4⟩, h5⟩ := h
      split at h5
      · cases h5
      · rename_i ks hks
        simp only [Bool.and_eq_true, decide_eq_true_eq, List.any_eq_true] at h5
        obtain ⟨p, hp, ⟨⟨⟨h6, h7⟩, h8⟩, h9⟩, h10⟩ := h5
        obtain ⟨a, fd, ps, g, gV, q1, q2, q3, q4, q5⟩ := c.kform p hp
        rw [h7] at q1
        rw [h6] at q3
        rw [h8, h9] at q4 q5
        rw [psEqL_eq h10] at q5
        obtain ⟨ns, hl⟩ := call_nostar h2
        have ha := (sndA as h2 c W tk).1
        obtain ⟨f1, f2, f3⟩ := kw_facts (pos := pos) (env := X.env) hks
        obtain ⟨_, hl2⟩ := call_nostar h4
        have hk := (sndA kvs h4 c W tk).2.2.1
        have hlk : kvs.length = ks.length := by rw [← hl2, List.length_map]; exact kw_len hks
        cases args with
        | nil => cases h3
        | cons a0 as0 =>
          have hs : isStar a0 = false ∧ noStar as0 = true := by simpa [noStar] using ns
          refine two c.hK (PE.imp (pe_callKS q3 c.room (c.gl _ h1) q1 q2 q4 tk ha (hk kws rfl) f1 f2 (gl_dbg h1).1 (star_cons hs.1) ?_) fun _ _ _ q => by rw [← hlk]; exact le_callKM (X := X) (by rw [hlk]; exact q5) q) (fun _ => rfl)
          rw [f3, (star_any ns).1]
          rfl
    · cases h
  | .lc g s it cs el own, sc, e, X, h, c, W, tk => by
    unfold chkE at h
    split at h
    · rename_i elt tg iter ifs a scope pos
      simp only [Bool.and_eq_true, decide_eq_true_eq, List.all_eq_true] at h
      obtain ⟨⟨⟨⟨⟨⟨⟨⟨h1, h0⟩, h2⟩, h3⟩, h4⟩, h5⟩, h6⟩, h7⟩, h8⟩ := h
      subst h1
      have hi : PI X tg iter (LI w W fun σ G k W => evA C it σ G (fun vs G1 => srcM s vs G1 fun xs inv => k xs inv G1) W) := by
        cases s with
        | val =>
          have h5 : chkA T N sc it [iter] = true := h5
          obtain ⟨_, hl⟩ := call_nostar h5
          have q := (sndA it h5 c W tk).2.2.2.1
          cases it with
          | nil => cases hl
          | cons a0 r0 =>
            cases r0 with
            | nil => exact pi_v (me := (ev C a0).e) c.hK (q a0 iter rfl rfl)
            | cons _ _ => cases hl
        | range =>
          dsimp only at h5
          split at h5
          · rename_i f pf args pos
            simp only [Bool.and_eq_true, decide_eq_true_eq, Bool.or_eq_true] at h5
            obtain ⟨⟨⟨g1, g2⟩, g3⟩, g4⟩ := h5
            subst g1
            obtain ⟨ns, hl⟩ := call_nostar g3
            exact pi_rng c g2 (sndA it g3 c W tk).1 g4 hl ns
          · cases h5
      exact two c.hK (lc_pe c (blk_of c h2) (fun i hi => List.contains_iff_mem.mp (h3 i hi)) (fun X' c' => (snd_G c' h4).2) (fun X' c' => (sndA cs h6 c' noW takes_no).2.1 h7) (fun X' c' => (sndE el h8 c' noW takes_no).1) (fold_no h0) tk hi) (fun _ => rfl)
    · cases h
theorem sndA : ∀ (ms : List ME) {sc : Scope} {es : List Expr} {X : Cx}, chkA T N sc ms es = true → Cn w T C n X N sc → ∀ W, Takes X W → PA X es (LA w W ms.length (evA C ms)) ∧
    (es.length ≤ 1 → PTs X es (LT w W fun σ G Q W' => evC0 C ms σ G Q W')) ∧ (∀ kws : List Keyword, es = kws.map (·.value) → PK X kws (LA w W ms.length (evA C ms))) ∧ (∀ m0 e0, ms = [m0] → es = [e0] → PE X e0 (LE w W (ev C m0).e)) ∧
    (∀ pos keys ks, ks.length = ms.length → keysB ks keys = true → PPs X pos keys es (trsM w W C ks ms))
  | [], sc, es, X, h, c, W, tk => by
    unfold chkA at h
    split at h
    · refine ⟨PA.imp pa_nil fun _ _ _ q => la_nil q, fun _ => pts_imp pts_nil fun σ H Q q => ?_, fun kws e => ?_, ⟨fun m0 e0 e => (nomatch e), fun pos keys ks hn hk => pps_stop hn hk⟩⟩
      · obtain ⟨F, G, σ', Q', W', S, rs, hm, hq, hw⟩ := q
        exact hq F G H true .refl S hm
      · cases kws with
        | nil => exact pk_imp pk_nil fun _ _ _ q => la_nil q
        | cons _ _ => cases e
    · cases h
  | m :: ms, sc, es, X, h, c, W, tk => by
    unfold chkA at h
    split at h
    · simp only [Bool.and_eq_true, Bool.not_eq_true'] at h
      have hm := sndE m h.1.2 c W tk
      have hr := sndA ms h.2 c W tk
      rename_i e0 er
      refine ⟨PA.imp (pa_cons hm.1 hr.1 (star_cons h.1.1)) fun _ _ _ q => la_cons q, fun hl => ?_, fun kws e => ?_, fun m0 e1 q1 q2 => ?_, fun pos keys ks hn hk => ?_⟩
      · cases er with
        | nil => exact pts_imp (pts_one hm.2) fun _ _ _ q => q
        | cons _ _ => simp at hl
      · cases kws with
        | nil => cases e
        | cons k0 kr =>
          obtain ⟨nm, v0, p0⟩ := k0
          injection e with e2 e3
          subst e2
          exact pk_imp (pk_cons hm.1 (hr.2.2.1 kr e3)) fun _ _ _ q => la_cons q
      · injection q1 with q1 _
        injection q2 with q2 _
        rw [← q1, ← q2]
        exact hm.1
      · exact pps_step hn hk hm.1 fun keys ks hn hk => hr.2.2.2.2 pos keys ks hn hk
    · cases h
end
end
end MP

set_option Elab.async false
set_option linter.all false
set_option maxRecDepth 100000
set_option maxHeartbeats 4000000
namespace MP
open PySem PySem.Spec PyProof.Rows L2
section
variable (T : Tab) (N : List Str)
def lclB (sc : Scope) (x : Str) : Bool := match sc.names.lookup x with
  | some .local => true
  | _ => false
/-- a target and a value that are stored plainly -/
def plainAsg : Expr → Expr → Bool
  | .Name _ _, .ListComp _ _ _ _ => false
  | .Name _ _, .SetComp _ _ _ _ => false
  | .Name _ _, .DictComp _ _ _ _ _ => false
  | .Name _ _, _ => true
  | .Tuple _ _ _, .Tuple _ _ _ => false
  | .Tuple _ _ _, .ListComp _ _ _ _ => false
  | .Tuple _ _ _, .SetComp _ _ _ _ => false
  | .Tuple _ _ _, .DictComp _ _ _ _ _ => false
  | .Tuple _ _ _, _ => true
  | _, _ => false
/-- a comprehension that is stored at once in a local name on its line -/
def compAsg (sc : Scope) : Expr → Expr → Bool
  | .Name y py, .ListComp _ _ scope pos => lclB sc y && (py.line == pos.line) && !(scope.names.any fun (n, k) => n == y && (k == .local || k == .cell))
  | _, _ => false
mutual
def chkS : Scope → MS → Stmt → Bool
  | sc, .asg g e, s => match s with
    | .Assign [tg] v _ => chkG N sc g tg && chkE T N sc e v && (plainAsg tg v || compAsg sc tg v)
    | _ => false
  | sc, .par i j a b, s => match s with
    | .Assign [.Tuple [.Name x px, .Name y py] _ _] (.Tuple [u, v] _ _) _ => decide (N[i]? = some x) && decide (N[j]? = some y) && decide (i ≠ j) && decide (x ≠ y) && lclB sc x && lclB sc y && (px.line == py.line) && !(isStar u) && !(isStar v) &&
      !(foldedForSure 8 u && foldedForSure 8 v) && !(constantsAlone 8 u && constantsAlone 8 v) && chkE T N sc a u && chkE T N sc b v
    | _ => false
  | sc, .setI o i e, s => match s with
    | .Assign [.Subscript oe ie _] v _ => chkE T N sc o oe && chkE T N sc i ie && chkE T N sc e v
    | _ => false
  | sc, .expr e, s => match s with
    | .Expr v _ => chkE T N sc e v && (match v with
      | .ListComp _ _ _ _ => false
      | .SetComp _ _ _ _ => false
      | .DictComp _ _ _ _ _ => false
      | _ => true)
    | _ => false
  | sc, .ret e, s => match s with
    | .Return (some v) _ => chkE T N sc e v
    | _ => false
  | sc, .ite c a b, s => match s with
    | .If t x y _ => chkE T N sc c t && chkB sc a x && chkB sc b y
    | _ => false
  | sc, .for g sr it b, s => match s with
    | .For tg iter body [] _ => noSet iter && chkG N sc g tg && (match sr with
      | .val => chkA T N sc it [iter]
      | .range => match iter with
        | .Call (.Name f _) args [] _ => decide (f = Str.ofString "range") && glB sc f && chkA T N sc it args && (decide (args.length = 1) || decide (args.length = 2))
        | _ => false) && chkB sc b body
    | _ => false
  | sc, .while c b, s => match s with
    | .While t body [] _ => chkE T N sc c t && chkB sc b body
    | _ => false
  | _, .pass, s => match s with
    | .Pass _ => true
    | _ => false
  | _, .cont, s => match s with
    | .Continue _ => true
    | _ => false
  | _, .brk, s => match s with
    | .Break _ => true
    | _ => false
def chkB : Scope → List MS → List Stmt → Bool
  | _, [], ss => match ss with
    | [] => true
    | _ => false
  | sc, m :: ms, ss => match ss with
    | s :: r => chkS sc m s && chkB sc ms r
    | [] => false
end
end
section
variable {w : Wd} {T : Tab} {N : List Str} {C : Sem0} {n : Nat} {X : Cx} {sc : Scope} {W : WX}
theorem lcl_of (c : Cn w T C n X N sc) {x : Str} (hl : ∀ x, lclB sc x = true → X.env.scope.names.lookup x = some .local) (h : lclB sc x = true) : X.env.scope.names.lookup x = some .local := hl x h
theorem swap_par {x y : Str} {px py pt pt2 : Pos} {kt k2 : Nat} {a b : Expr} {env : Env} (hk : env.scope.kind = .function) (hx : env.scope.names.lookup x = some .local) (hy : env.scope.names.lookup y = some .local) (hne : x ≠ y) (hl : px.line = py.line)
    (ha : isStar a = false) (hb : isStar b = false) (hf : (foldedForSure 8 a && foldedForSure 8 b) = false) (hc : (constantsAlone 8 a && constantsAlone 8 b) = false) :
    swappedStores [.Tuple [.Name x px, .Name y py] kt pt] (.Tuple [a, b] k2 pt2) env = pure (some [x, y]) := by
  have hbk : env.blockKind = .function := by unfold Env.blockKind; rw [hk]; rfl
  have k1 : env.kindOf x = some .local := hx
  have k2 : env.kindOf y = some .local := hy
  have hd : ([x, y] : List Str).eraseDups.length = 2 := by
    have q : (y == x) = false := by simpa using Ne.symm hne
    simp [List.eraseDups, List.eraseDupsBy, List.eraseDupsBy.loop, q]
  have hf' : [a, b].all (foldedForSure 8) = false := by
    show (foldedForSure 8 a && (foldedForSure 8 b && true)) = false
    rw [Bool.and_true]
    exact hf
  have hc' : [a, b].all (constantsAlone 8) = false := by
    show (constantsAlone 8 a && (constantsAlone 8 b && true)) = false
    rw [Bool.and_true]
    exact hc
  unfold swappedStores
  simp only [hbk]
  rw [if_neg (by simp), if_neg]
  · simp only [List.filterMap_cons, List.filterMap_nil, k1, k2, List.head?_cons, Option.map_some, Option.getD_some, Expr.pos, hl, beq_self_eq_true, Bool.and_self, if_true, hf', hc', if_false, Bool.false_eq_true]
    rw [if_neg (by rw [hd]; simp)]
  · rw [Bool.not_eq_true]
    simp only [List.any_cons, List.any_nil, Bool.or_false, Bool.or_eq_false_iff]
    constructor
    · cases a <;> first | rfl | (simp [isStar] at ha)
    · cases b <;> first | rfl | (simp [isStar] at hb)
theorem idx_set {o i : Expr} {p : Pos} {env : Env} (h : ∀ a b c d, i ≠ .Slice a b c d) : ∀ v, assign (.Subscript o i p) env v = (do
      let ov ← holding [v] (eval o env)
      let iv ← holding [v, ov] (eval i env)
      standAt p
      holding [v, ov, iv] (setItem ov iv v)
      release [v, ov, iv] []) := by
  intro v
  cases i <;> first | rfl | exact absurd rfl (h _ _ _ _)
/-- what statements want besides -/
structure CnS (w : Wd) (T : Tab) (C : Sem0) (n : Nat) (X : Cx) (N : List Str) (sc : Scope) : Prop extends Cn w T C n X N sc where
  lcl : ∀ x, lclB sc x = true → X.env.scope.names.lookup x = some .local
  own : PassesOwn (model X.prog X.w) X.A X.env X.xe
theorem ls_asg {ma : ME0} {g : MG} {D : Ends} {σ : L2.St} {H : Hp} (h : LS w W (fun D σ G => ma σ G (fun v G1 => asgM g v σ G1 D.nx) D.ex) D σ H) : tAsg (LE w W ma) (LG w g) D σ H := by
  obtain ⟨F, G, σ', D', S, rs, hm, hd⟩ := h
  refine ⟨F, G, σ', _, _, S, rs, hm, fun F1 G1 H1 x' x e1 S1 r1 h1 => ?_, hd.ex⟩
  exact ⟨F1, G1, x', σ', _, S1, rs.ext e1.1, r1, h1, hd.nx.ext e1⟩
theorem ls_asg1 {ma : ME0} {i : Nat} {D : Ends} {σ : L2.St} {H : Hp} (h : LS w W (fun D σ G => ma σ G (fun v G1 => asgM (.nm i) v σ G1 D.nx) D.ex) D σ H) : tAsg (LE w W ma) (gName i) D σ H := by
  obtain ⟨F, G, σ', D', S, rs, hm, hd⟩ := h
  refine ⟨F, G, σ', _, _, S, rs, hm, fun F1 G1 H1 x' x e1 S1 r1 h1 => ?_, hd.ex⟩
  have h1 : D'.nx (stv σ' i (some x')) G1 := h1
  rw [stv_eq] at h1
  exact hd.nx F1 G1 H1 _ _ e1 S1 ((rs.ext e1.1).set i r1) h1
theorem ls_par {ma mb : ME0} {i j : Nat} {D : Ends} {σ : L2.St} {H : Hp} (h : LS w W (fun D σ G => ma σ G (fun x G1 => mb σ G1 (fun y G2 => D.nx (stv (stv σ i (some x)) j (some y)) G2) D.ex) D.ex) D σ H) :
    tPar i j (LA w W 2 fun σ G Q W => ma σ G (fun x G1 => mb σ G1 (fun y G2 => Q [x, y] G2) W) W) D σ H := by
  obtain ⟨F, G, σ', D', S, rs, hm, hd⟩ := h
  refine ⟨F, G, σ', fun vs G2 => match vs with
    | [x, y] => D'.nx (stv (stv σ' i (some x)) j (some y)) G2
    | _ => False, D'.ex, S, rs, hm, fun F1 G1 H1 xs vs e1 S1 r1 l1 h1 => ?_, hd.ex⟩
  dsimp only at h1
  split at h1
  · obtain ⟨v, u, rfl, q1, q2⟩ := repL2 r1
    rw [stv_eq, stv_eq] at h1
    exact ⟨v, u, rfl, hd.nx F1 G1 H1 _ _ e1 S1 (((rs.ext e1.1).set i q1).set j q2) h1⟩
  · exact h1.elim
theorem ls_set {me mo mi : ME0} {D : Ends} {σ : L2.St} {H : Hp} (h : LS w W (fun D σ G => me σ G (fun v G1 => mo σ G1 (fun x G2 => mi σ G2 (fun y G3 => match x, y with
    | .ref p, .int k => ∃ xs j, G3 p = some (.lst xs) ∧ ixN xs.length k = some j ∧ D.nx σ (mup G3 p (.lst (stv xs j v)))
    | _, _ => False) D.ex) D.ex) D.ex) D σ H) : tAsg (LE w W me) (gSub (LE w W mo) (LE w W mi) rSetL) D σ H := by
  obtain ⟨F, G, σ', D', S, rs, hm, hd⟩ := h
  refine ⟨F, G, σ', _, _, S, rs, hm, fun F1 G1 H1 v' v e1 S1 r1 h1 => ?_, hd.ex⟩
  refine ⟨F1, G1, σ', _, _, S1, rs.ext e1.1, h1, fun F2 G2 H2 x' x e2 S2 r2 h2 => ?_, hd.ex.ext e1⟩
  refine ⟨F2, G2, σ', _, _, S2, rs.ext (e1.trans e2).1, h2, fun F3 G3 H3 y' y e3 S3 r3 h3 => ?_, hd.ex.ext (e1.trans e2)⟩
  dsimp only at h3
  split at h3
  · rename_i p k
    obtain ⟨xs, j, hp, hj, h3⟩ := h3
    obtain ⟨hf, o, ho, ys, rfl, ra⟩ := S3.mu _ _ hp
    have q1 : x = .ref p := r2
    have q2 : y = .int k := r3
    subst q1 q2
    refine ⟨p, ys, k, j, rfl, rfl, ho, by rw [← ra.length]; exact hj, ?_⟩
    rw [stv_eq] at h3
    have e03 := e1.trans (e2.trans e3)
    exact hd.nx F3 _ _ σ' σ (e03.trans (.put hp)) (S3.put (g := .lst _) hf ⟨_, rfl, ra.set (r1.ext (e2.trans e3).1) j⟩) (rs.ext e03.1) h3
  · exact h3.elim
theorem ls_expr {me : ME0} {D : Ends} {σ : L2.St} {H : Hp} (h : LS w W (fun D σ G => me σ G (fun _ G1 => D.nx σ G1) D.ex) D σ H) : tDrop (LE w W me) D σ H := by
  obtain ⟨F, G, σ', D', S, rs, hm, hd⟩ := h
  exact ⟨F, G, σ', _, _, S, rs, hm, fun F1 G1 H1 x' x e1 S1 r1 h1 => hd.nx F1 G1 H1 σ' σ e1 S1 (rs.ext e1.1) h1, hd.ex⟩
theorem ls_ret {me : ME0} {D : Ends} {σ : L2.St} {H : Hp} (h : LS w W (fun D σ G => me σ G D.rt D.ex) D σ H) : tRet (LE w W me) D σ H := by
  obtain ⟨F, G, σ', D', S, rs, hm, hd⟩ := h
  exact ⟨F, G, σ', _, _, S, rs, hm, hd.rt, hd.ex⟩
theorem ls_if {mc : MT0} {ma mb : MS0} {D : Ends} {σ : L2.St} {H : Hp} (h : LS w W (fun D σ G => mc σ G (fun t G1 => Br t (ma D σ G1) (mb D σ G1)) D.ex) D σ H) : tIfS (LT w W mc) (LS w W ma) (LS w W mb) D σ H := by
  obtain ⟨F, G, σ', D', S, rs, hm, hd⟩ := h
  refine ⟨F, G, σ', _, _, S, rs, hm, fun F1 G1 H1 t e1 S1 h1 => ?_, hd.ex⟩
  cases t with
  | true =>
    rw [if_pos rfl]
    exact ⟨F1, G1, σ', D', S1, rs.ext e1.1, h1, hd.ext e1⟩
  | false =>
    rw [if_neg Bool.false_ne_true]
    exact ⟨F1, G1, σ', D', S1, rs.ext e1.1, h1, hd.ext e1⟩
theorem ls_seq {ma mb : MS0} {D : Ends} {σ : L2.St} {H : Hp} (h : LS w W (fun D σ G => ma { D with nx := mb D } σ G) D σ H) : tSeq (LS w W ma) (LS w W mb) D σ H := by
  obtain ⟨F, G, σ', D', S, rs, hm, hd⟩ := h
  exact ⟨F, G, σ', _, S, rs, hm, ⟨fun F1 G1 H1 σ1' σ1 e1 S1 rs1 h1 => ⟨F1, G1, σ1', D', S1, rs1, h1, hd.ext e1⟩, hd.rt, hd.bk, hd.ct, hd.ex⟩⟩
end
end MP

set_option Elab.async false
set_option linter.all false
set_option maxRecDepth 100000
set_option maxHeartbeats 4000000
namespace MP
open PySem PySem.Spec PyProof.Rows L2
section
variable {w : Wd} {T : Tab} {N : List Str} {C : Sem0} {n : Nat}
theorem src_pi {X : Cx} {sc : Scope} {W : WX} (c : Cn w T C n X N sc) (tk : Takes X W) {s : Src} {it : List ME} {iter tg : Expr}
    (h5 : (match s with
      | .val => chkA T N sc it [iter]
      | .range => match iter with
        | .Call (.Name f _) args [] _ => decide (f = Str.ofString "range") && glB sc f && chkA T N sc it args && (decide (args.length = 1) || decide (args.length = 2))
        | _ => false) = true) : PI X tg iter (LI w W fun σ G k W => evA C it σ G (fun vs G1 => srcM s vs G1 fun xs inv => k xs inv G1) W) := by
  cases s with
  | val =>
    have h5 : chkA T N sc it [iter] = true := h5
    obtain ⟨_, hl⟩ := call_nostar h5
    have q := (sndA it h5 c W tk).2.2.2.1
    cases it with
    | nil => cases hl
    | cons a0 r0 =>
      cases r0 with
      | nil => exact pi_v (me := (ev C a0).e) c.hK (q a0 iter rfl rfl)
      | cons _ _ => cases hl
  | range =>
    dsimp only at h5
    split at h5
    · rename_i f pf args pos
      simp only [Bool.and_eq_true, decide_eq_true_eq, Bool.or_eq_true] at h5
      obtain ⟨⟨⟨g1, g2⟩, g3⟩, g4⟩ := h5
      subst g1
      obtain ⟨ns, hl⟩ := call_nostar g3
      exact pi_rng c g2 (sndA it g3 c W tk).1 g4 hl ns
    · cases h5
theorem lc_conv {W : WX} {g : MG} {s : Src} {it cs : List ME} {el : ME} {own : List Nat} (hv : ∀ i ∈ g.sl, i ∈ own) {σ : L2.St} {H : Hp} {Q : VK} (q : LE w W (ev C (.lc g s it cs el own)).e σ H Q) :
    tLc (LI w W fun σ G k W => evA C it σ G (fun vs G1 => srcM s vs G1 fun xs inv => k xs inv G1) W) (gOf w.K g) (LT w noW fun σ G Q W' => evC0 C cs σ G Q W') (LE w noW (ev C el).e) own σ H Q := by
  have e : (fun (σ1 : MSt) (G2 : MH) (k : Bool → MH → Prop) => evC C cs σ1 G2 k) = fun σ1 G2 k => evC0 C cs σ1 G2 k fun _ _ _ => False := by
    funext σ1 G2 k
    exact evC0_eq C cs σ1 G2 k
  have q : LE w W (fun σ G Q W => evA C it σ G (fun vs G1 => srcM s vs G1 fun xs inv => lcM g (fun σ1 G2 k => evC C cs σ1 G2 k) (fun σ1 G2 k => (ev C el).e σ1 G2 k fun _ _ _ => False) (wipeM σ own) inv xs [] G1 fun ys G3 => newL ys G3 Q) W) σ H Q := q
  rw [e] at q
  exact le_lc hv q
theorem asg_ok {X : Cx} {sc : Scope} {W : WX} (c : CnS w T C n X N sc) (tk : Takes X W) {g : MG} {e : ME} {tg v : Expr} {pos : Pos} (h1 : chkG N sc g tg = true) (h2 : chkE T N sc e v = true) (h3 : (plainAsg tg v || compAsg sc tg v) = true) :
    PS X (.Assign [tg] v pos) (LS w W (evS C (.asg g e))) := by
  have pg := (snd_G c.toCn h1).1
  have pe := (sndE e h2 c.toCn W tk).1
  rw [Bool.or_eq_true] at h3
  rcases h3 with h3 | h3
  · refine PS.imp (ps_asg (te := LE w W (ev C e).e) (g := LG w g) pe pg ?_ ?_ ?_) fun D σ H q => ls_asg q
    · cases tg <;> first
        | (cases v <;> first | rfl | (simp [plainAsg] at h3))
        | (simp [plainAsg] at h3)
    · cases tg <;> first
        | (cases v <;> first | rfl | (simp [plainAsg] at h3))
        | (simp [plainAsg] at h3)
    · cases tg <;> first | rfl | (simp [plainAsg] at h3)
  · cases tg with
    | Name y py =>
      cases v with
      | ListComp elt gs scope p =>
        simp only [compAsg, Bool.and_eq_true, Bool.not_eq_true'] at h3
        obtain ⟨⟨g1, g2⟩, g3⟩ := h3
        cases e with
        | lc g' s it cs el own =>
          unfold chkE at h2
          split at h2
          · rename_i elt' tg' iter ifs a scope' pos' heq
            cases heq
            simp only [Bool.and_eq_true, decide_eq_true_eq, List.all_eq_true] at h2
            obtain ⟨⟨⟨⟨⟨⟨⟨⟨h1', h0⟩, h2⟩, h3⟩, h4⟩, h5⟩, h6⟩, h7⟩, h8⟩ := h2
            subst h1'
            have hb := blk_of c.toCn h2
            cases g with
            | nm i =>
              simp only [chkG, Bool.and_eq_true, decide_eq_true_eq] at h1
              have P := ps_setLc (py := py) (spos := pos) c.calm c.nd (by rw [c.hN]; exact h1.1) (c.lcl _ g1) (sw_true c.kd (c.lcl _ g1) g2 g3) (src_pi c.toCn tk h5) hb (fun s H A cl fp => (snd_G (c.toCn.blk hb s H A cl fp) h4).2) (fun s H A cl fp => (sndA cs h6 (c.toCn.blk hb s H A cl fp) noW takes_no).2.1 h7)
                (fun s H A cl fp => (sndE el h8 (c.toCn.blk hb s H A cl fp) noW takes_no).1) (fold_no h0)
              refine PS.imp P fun D σ H q => ?_
              rw [own_map]
              exact lc_conv (fun i hi => List.contains_iff_mem.mp (h3 i hi)) (ls_asg1 q)
            | tup is => simp [chkG] at h1
          · cases h2
        | _ => simp [chkE] at h2
      | _ => simp [compAsg] at h3
    | _ => simp [compAsg] at h3
mutual
theorem sndS : ∀ (m : MS) {sc : Scope} {s : Stmt} {X : Cx}, chkS T N sc m s = true → CnS w T C n X N sc → ∀ W, Takes X W → PS X s (LS w W (evS C m))
  | .asg g e, sc, s, X, h, c, W, tk => by
    unfold chkS at h
    split at h
    · simp only [Bool.and_eq_true] at h
      exact asg_ok c tk h.1.1 h.1.2 h.2
    · cases h
  | .par i j a b, sc, s, X, h, c, W, tk => by
    unfold chkS at h
    split at h
    · rename_i x px y py k1 p1 u v k2 p2 pos
      simp only [Bool.and_eq_true, decide_eq_true_eq, Bool.not_eq_true', beq_iff_eq] at h
      obtain ⟨⟨⟨⟨⟨⟨⟨⟨⟨⟨⟨⟨h1, h2⟩, h3⟩, h4⟩, h5⟩, h6⟩, h7⟩, h8⟩, h9⟩, h10⟩, h11⟩, h12⟩, h13⟩ := h
      have pa := (sndE a h12 c.toCn W tk).1
      have pb := (sndE b h13 c.toCn W tk).1
      have P : PA X [u, v] (LA w W 2 fun σ G Q W => (ev C a).e σ G (fun x G1 => (ev C b).e σ G1 (fun y G2 => Q [x, y] G2) W) W) :=
        PA.imp (pa_cons pa (PA.imp (pa_cons pb (PA.imp pa_nil fun _ _ _ q => la_nil q) (star_cons h9)) fun _ _ _ q => la_cons q) (star_cons h8)) fun _ _ _ q => la_cons (mr := fun σ G Q W => (ev C b).e σ G (fun y G2 => (fun _ G Q _ => Q [] G : MA0) σ G2 (fun vs G3 => Q (y :: vs) G3) W) W) q
      exact PS.imp (ps_par c.calm c.nd (by rw [c.hN]; exact h1) (by rw [c.hN]; exact h2) h3 (c.lcl _ h5) (c.lcl _ h6) P (swap_par c.kd (c.lcl _ h5) (c.lcl _ h6) h4 h7 h8 h9 h10 h11)) fun D σ H q => ls_par q
    · cases h
  | .setI o i e, sc, s, X, h, c, W, tk => by
    unfold chkS at h
    split at h
    · rename_i oe ie p v pos
      simp only [Bool.and_eq_true] at h
      have hi := h.1.2
      have hsl : ∀ a b c d, ie ≠ .Slice a b c d := by
        intro a b c d e
        subst e
        cases i <;> simp [chkE] at hi
      refine PS.imp (ps_asg (sndE e h.2 c.toCn W tk).1 (pg_sub (sndE o h.1.1 c.toCn W tk).1 (sndE i hi c.toCn W tk).1 set_list (idx_set hsl)) ?_ ?_ rfl) fun D σ H q => ls_set q
      · cases v <;> rfl
      · rfl
    · cases h
  | .expr e, sc, s, X, h, c, W, tk => by
    unfold chkS at h
    split at h
    · rename_i v pos
      simp only [Bool.and_eq_true] at h
      have h2 := h.2
      refine PS.imp (ps_expr (sndE e h.1 c.toCn W tk).1 ?_) fun D σ H q => ls_expr q
      cases v <;> first | rfl | cases h2
    · cases h
  | .ret e, sc, s, X, h, c, W, tk => by
    unfold chkS at h
    split at h
    · exact PS.imp (ps_ret (sndE e h c.toCn W tk).1) fun D σ H q => ls_ret q
    · cases h
  | .ite d a b, sc, s, X, h, c, W, tk => by
    unfold chkS at h
    split at h
    · simp only [Bool.and_eq_true] at h
      exact PS.imp (ps_if (sndE d h.1.1 c.toCn W tk).2 (sndB a h.1.2 c W tk) (sndB b h.2 c W tk)) fun D σ H q => ls_if q
    · cases h
  | .for g sr it b, sc, s, X, h, c, W, tk => by
    unfold chkS at h
    split at h
    · rename_i tg iter body pos
      rw [Bool.and_eq_true, Bool.and_eq_true, Bool.and_eq_true] at h
      obtain ⟨⟨⟨h1, h2⟩, h3⟩, h4⟩ := h
      exact PS.imp (ps_for c.own c.calm (src_pi c.toCn tk h3) (snd_G c.toCn h2).1 (sndB b h4 c W tk) (fold_no h1)) fun D σ H q => ls_for q
    · cases h
  | .while d b, sc, s, X, h, c, W, tk => by
    unfold chkS at h
    split at h
    · simp only [Bool.and_eq_true] at h
      exact PS.imp (ps_while c.own (sndE d h.1 c.toCn W tk).2 (sndB b h.2 c W tk)) fun D σ H q => ls_while q
    · cases h
  | .pass, sc, s, X, h, c, W, tk => by
    unfold chkS at h
    split at h
    · refine PS.imp ps_pass fun D σ H q => ?_
      obtain ⟨F, G, σ', D', S, rs, hm, hd⟩ := q
      exact hd.nx F G H σ' σ .refl S rs hm
    · cases h
  | .cont, sc, s, X, h, c, W, tk => by
    unfold chkS at h
    split at h
    · refine PS.imp ps_continue fun D σ H q => ?_
      obtain ⟨F, G, σ', D', S, rs, hm, hd⟩ := q
      exact hd.ct F G H σ' σ .refl S rs hm
    · cases h
  | .brk, sc, s, X, h, c, W, tk => by
    unfold chkS at h
    split at h
    · refine PS.imp ps_break fun D σ H q => ?_
      obtain ⟨F, G, σ', D', S, rs, hm, hd⟩ := q
      exact hd.bk F G H σ' σ .refl S rs hm
    · cases h
theorem sndB : ∀ (ms : List MS) {sc : Scope} {ss : List Stmt} {X : Cx}, chkB T N sc ms ss = true → CnS w T C n X N sc → ∀ W, Takes X W → PSs X ss (LS w W (evB C ms))
  | [], sc, ss, X, h, c, W, tk => by
    unfold chkB at h
    split at h
    · refine PSs.imp pss_nil fun D σ H q => ?_
      obtain ⟨F, G, σ', D', S, rs, hm, hd⟩ := q
      exact hd.nx F G H σ' σ .refl S rs hm
    · cases h
  | m :: ms, sc, ss, X, h, c, W, tk => by
    unfold chkB at h
    split at h
    · simp only [Bool.and_eq_true] at h
      exact PSs.imp (pss_cons (sndS m h.1 c W tk) (sndB ms h.2 c W tk)) fun D σ H q => ls_seq q
    · cases h
end
end
end MP

set_option Elab.async false
set_option linter.all false
set_option maxRecDepth 100000
set_option maxHeartbeats 4000000
namespace MP
open PySem PySem.Spec PyProof.Rows L2
/-! # defs -/
def callN (pr : Nat → MF) : Nat → Sem0
  | 0 => fun _ _ _ _ _ => False
  | n + 1 => fun f vs G Q E => evF (callN pr n) (pr f) vs G Q E
/-- a def of the text: its number, its statement, its names by slots, its parameters -/
structure DE where
  f : Nat
  st : Stmt
  N : List Str
  ps : List Str
/-- a def as it stands behind the top -/
structure At (K : PySem.W.Frag) (d : DE) (a : Addr) (fd : FuncData) : Prop where
  ex : ∃ (oc : Value) (od : Option Addr) (name qual : Str) (params : Arguments) (dV kV doc pm : Value) (an : Option Addr) (cdv ct : Value) (osl : Array (Option Value)),
    fd = PySem.W.fnOf name qual params (defBody d.st) (defScope d.st) dV kV doc pm an cdv ct ∧ K.lookup a = some ⟨oc, od, .func fd, osl⟩ ∧ PySem.W.codeIn K cdv qual = true
section
variable (w : Wd) (T : Tab) (pr : Nat → MF) (ds : List DE)
/-- the text passes the check -/
def okDefs : Bool := ds.all fun d => chkB T d.N (defScope d.st) (pr d.f).body (defBody d.st) && decide ((pr d.f).N = d.N.length) && decide (d.N.Nodup) && decide ((defScope d.st).isCoroutine = false) && decide ((defScope d.st).isGenerator = false) &&
  decide ((defScope d.st).kind = .function) && decide (d.N.take d.ps.length = d.ps) && d.ps.all (fun x => locB (defScope d.st) x) && (defScope d.st).names.all (fun y => decide (y.2 ≠ .free))
/-- what the top has left -/
structure Lk (P : Program) (wd : World) (mg : Str → Option Value) (base : Heap) : Prop where
  bltB : ∀ p : Prim, mg (Str.ofString p.nm) = none
  bltT : ∀ t : BT, t ≠ .none → mg (Str.ofString t.nm) = none
  rng : mg "range" = none
  glob : ∀ p ∈ T.globs, ∃ (v : V) (u : Value), mg p.1 = some u ∧ RelV v u ∧ ∀ F, Rep w F p.2 v
  form : ∀ p ∈ T.forms, ∃ d ∈ ds, d.f = p.f ∧ ∃ (a : Addr) (fd : FuncData) (vs : List Value) (dvs : List V), At w.K d a fd ∧ mg p.name = some (.ref a) ∧ PySem.W.keepIn w.K (.ref a) = true ∧ Binds w.K fd d.ps vs ∧ Vals dvs vs ∧ (∀ F, RepL w F p.dms dvs) ∧ p.n + dvs.length = d.ps.length
  kform : ∀ p ∈ T.kforms, ∃ d ∈ ds, d.f = p.f ∧ ∃ (a : Addr) (fd : FuncData) (g : List Value → List Value → List Value) (gV : List V → List V → List V), At w.K d a fd ∧ mg p.name = some (.ref a) ∧ PySem.W.keepIn w.K (.ref a) = true ∧
    KBn w.K fd d.ps p.n p.ks g gV ∧ ∀ F xs vs ys zs, RepL w F xs vs → RepL w F ys zs → xs.length = p.n → ys.length = p.ks.length → RepL w F (asm p.src xs ys) (gV vs zs) ∧ (gV vs zs).length = d.ps.length
end
section
variable {w : Wd} {T : Tab} {pr : Nat → MF} {ds : List DE} {P : Program} {wd : World} {mg : Str → Option Value} {base : Heap}
abbrev start_ (n : Nat) (us : List V) : L2.St := us.map some ++ List.replicate (n - us.length) none
theorem start_rep {F : Hp} {vs : List MV} {us : List V} (n : Nat) (r : RepL w F vs us) : RepS w F (startM n vs) (start_ n us) := by
  refine ⟨?_, fun i x h => ?_⟩
  · unfold startM start_
    rw [List.length_append, List.length_append, List.length_map, List.length_map, List.length_replicate, List.length_replicate, r.length]
  · unfold startM at h
    unfold start_
    rcases Nat.lt_or_ge i vs.length with hl | hl
    · rw [List.getElem?_append_left (by rw [List.length_map]; exact hl), List.getElem?_map] at h
      cases e : vs[i]? with
      | none => rw [e] at h; cases h
      | some y =>
        rw [e] at h
        have e2 : y = x := Option.some.inj (Option.some.inj h)
        subst e2
        obtain ⟨v, q1, q2⟩ := r.get e
        refine ⟨v, ?_, q2⟩
        rw [List.getElem?_append_left (by rw [List.length_map, ← r.length]; exact hl), List.getElem?_map, q1]
        rfl
    · rw [List.getElem?_append_right (by rw [List.length_map]; exact hl), List.getElem?_replicate] at h
      split at h <;> cases h
theorem sub_fut {F F' : Hp} {G G' G'' : MH} {H H' : Hp} (e : Fut F G H F' G' H') (h : ∀ a o, G'' a = some o → G' a = some o) : Fut F G H F' G'' H' := ⟨e.1, fun a o q1 q2 q3 => by
  obtain ⟨z1, z2, z3⟩ := e.2 a o q1 q2 q3
  refine ⟨z1, z2, ?_⟩
  cases q : G'' a with
  | none => rfl
  | some u =>
    rw [h a u q] at z3
    cases z3⟩
theorem all_fns (L : Lk w T ds P wd mg base) (hok : okDefs T pr ds = true) : ∀ (n : Nat) (d : DE), d ∈ ds → ∀ (a : Addr) (fd : FuncData), At w.K d a fd → FnOk P wd w.K mg base (L2.CX P wd) n a fd d.ps (spM w (callN pr n) d.f d.ps.length)
  | 0, d, _, a, fd, _ => ⟨fun vs H Q E h => h.1, fun A outer s H args us vs Q E _ _ _ _ h => by
      obtain ⟨_, _, _, _, _, _, _, _, h, _⟩ := h
      exact h.elim⟩
  | n + 1, d, hd, a, fd, ⟨oc, od, name, qual, params, dV, kV, doc, pm, an, cdv, ct, osl, e1, e2, e3⟩ => by
    have ih := all_fns L hok n
    have hb := List.all_eq_true.mp hok d hd
    simp only [Bool.and_eq_true, decide_eq_true_eq, List.all_eq_true] at hb
    obtain ⟨⟨⟨⟨⟨⟨⟨⟨b1, b2⟩, b3⟩, b4⟩, b5⟩, b6⟩, b7⟩, b8⟩, b9⟩ := hb
    subst e1
    have hloc : ∀ x, locB (defScope d.st) x = true → (defScope d.st).names.lookup x = some .local ∨ (defScope d.st).names.lookup x = some .cell := by
      intro x h
      unfold locB at h
      split at h
      · exact .inl (by assumption)
      · exact .inr (by assumption)
      · cases h
    refine fn_of e2 e3 (N := d.N) ⟨b6, b4, b5, b3, b7, fun x hx => hloc x (b8 x hx), fun y hy => by simpa using b9 y hy⟩ (fun vs H Q E h => h.1) fun A outer s H vs Q E hr h => ?_
    obtain ⟨hl, F, G, xs, Q', E', S, r, hc, hq, he⟩ := h
    have cn : CnS w T (callN pr n) n (cxOf (L2.CX P wd) P wd w.K mg base d.N qual (defScope d.st) a cdv A outer s H E) d.N (defScope d.st) :=
      { hN := rfl, nd := b3, hK := rfl, calm := rfl, room := hr
        vis := fun x h => by
          unfold visB at h
          split at h
          · exact .inl (by assumption)
          · exact .inr (.inl (by assumption))
          · exact .inr (.inr (by assumption))
          · cases h
        loc := fun x h => ⟨hloc x h, .inl rfl⟩
        gl := fun x h => by
          unfold glB at h
          rw [Bool.and_eq_true, Bool.and_eq_true] at h
          have h := h.1.1
          split at h
          · assumption
          · cases h
        free := fun x h => h
        kd := b6
        bltB := L.bltB, bltT := L.bltT, rng := L.rng, glob := L.glob
        form := fun p hp => by
          obtain ⟨d', hd', hf, a', fd', vs', dvs', q1, q2, q3, q4, q5, q6, q7⟩ := L.form p hp
          have k := ih d' hd' a' fd' q1
          rw [hf] at k
          exact ⟨a', fd', d'.ps, vs', dvs', q2, q3, k, q4, q5, q6, q7⟩
        kform := fun p hp => by
          obtain ⟨d', hd', hf, a', fd', g, gV, q1, q2, q3, q4, q5⟩ := L.kform p hp
          have k := ih d' hd' a' fd' q1
          rw [hf] at k
          exact ⟨a', fd', d'.ps, g, gV, q2, q3, k, q4, q5⟩
        lcl := fun x h => by
          unfold lclB at h
          split at h
          · assumption
          · cases h
        own := passes_of rfl }
    refine ⟨_, sndB (pr d.f).body b1 cn _ (takes_of rfl rfl rfl rfl), F, G, startM d.N.length xs, endF Q' E', S, start_rep _ r, by rw [← b2]; exact hc, ?_⟩
    refine ⟨fun F1 G1 H1 σ' σ e1 S1 rs h1 => ?_, fun F1 G1 H1 x v e1 S1 rx h1 => ?_, fun _ _ _ _ _ _ _ _ h1 => h1.elim, fun _ _ _ _ _ _ _ _ h1 => h1.elim, fun F1 G1 H1 σ' σ ex cls dd e1 S1 rs rx h1 => ?_⟩
    · obtain ⟨G2, g1, g2⟩ := h1
      exact hq F1 G2 H1 .non _ (sub_fut e1 g1) (S1.less g1) rfl g2
    · obtain ⟨G2, g1, g2⟩ := h1
      exact hq F1 G2 H1 x v (sub_fut e1 g1) (S1.less g1) rx g2
    · obtain ⟨G2, g1, g2⟩ := h1
      exact he F1 G2 H1 ex cls dd (sub_fut e1 g1) (S1.less g1) rx g2
end
end MP

set_option Elab.async false
set_option linter.all false
set_option maxRecDepth 100000
set_option maxHeartbeats 4000000
namespace MP
open PySem PySem.Spec PyProof.Rows L2
/-! # what the top has left: the defs, how they are called -/
theorem all_nil {α : Type} {P : α → Prop} : ∀ p ∈ ([] : List α), P p := fun _ h => nomatch h
theorem all_cons {α : Type} {P : α → Prop} {a : α} {l : List α} (h : P a) (r : ∀ p ∈ l, P p) : ∀ p ∈ a :: l, P p := fun p hp => by
  rcases List.mem_cons.mp hp with e | e
  · subst e
    exact h
  · exact r p e
/-- a def of the top by its statement -/
structure DF (K : PySem.W.Frag) (name : Str) (st : Stmt) (dvs : List V) (kws : List (Str × V)) (a : Addr) (fd : FuncData) : Prop where
  F : FunD K name name (defArgs st) (defBody st) (defScope st) dvs kws a fd
  g : PySem.W.nsIn K mainGlobals name = some (some (.ref a))
section
variable {K : PySem.W.Frag} {name : Str} {st : Stmt} {a : Addr} {oc : Value} {od an : Option Addr} {osl : Array (Option Value)} {dV kV doc pm cdv ct : Value} {kws : List (Str × V)} {dvs : List V}
theorem df_mk0 (g : PySem.W.nsIn K mainGlobals name = some (some (.ref a))) (l : K.lookup a = some ⟨oc, od, .func (PySem.W.fnOf name name (defArgs st) (defBody st) (defScope st) .none kV doc pm an cdv ct), osl⟩)
    (c : PySem.W.codeIn K cdv name = true) (k : PySem.W.keepIn K (.ref a) = true) : ∃ a fd, DF K name st [] [] a fd :=
  ⟨a, _, ⟨⟨oc, od, .none, kV, doc, pm, an, cdv, ct, osl, rfl, l, c, .inl ⟨rfl, rfl⟩, .inl rfl⟩, k⟩, g⟩
theorem df_mk (g : PySem.W.nsIn K mainGlobals name = some (some (.ref a))) (l : K.lookup a = some ⟨oc, od, .func (PySem.W.fnOf name name (defArgs st) (defBody st) (defScope st) dV kV doc pm an cdv ct), osl⟩)
    (c : PySem.W.codeIn K cdv name = true) (k : PySem.W.keepIn K (.ref a) = true) (hd : DflV K dV dvs) (hk : KwdV K kV kws) : ∃ a fd, DF K name st dvs kws a fd :=
  ⟨a, _, ⟨⟨oc, od, dV, kV, doc, pm, an, cdv, ct, osl, rfl, l, c, hd, hk⟩, k⟩, g⟩
theorem gl_mk {x : Str} {v : V} {u : Value} (g : PySem.W.nsIn K mainGlobals x = some (some u)) (r : RelV v u) : ∃ u, PySem.W.nsIn K mainGlobals x = some (some u) ∧ RelV v u := ⟨u, g, r⟩
def AllKw (K : PySem.W.Frag) (D : Addr) (kws : List (Str × V)) : Prop := ∀ q ∈ kws, ∃ u, PySem.W.nsIn K D q.1 = some (some u) ∧ RelV q.2 u
theorem kw_nil {D : Addr} : AllKw K D [] := all_nil
theorem kw_cons {D : Addr} {x : Str} {v : V} {u : Value} (h : PySem.W.nsIn K D x = some (some u)) (r : RelV v u) (h2 : AllKw K D kws) : AllKw K D ((x, v) :: kws) := all_cons ⟨u, h, r⟩ h2
theorem kwd_mk {D : Addr} (h : AllKw K D kws) : KwdV K (.ref D) kws := .inr ⟨D, rfl, h⟩
theorem dfl_no : DflV K .none [] := .inl ⟨rfl, rfl⟩
end
section
variable {w : Wd} {T : Tab} {pr : Nat → MF} {ds : List DE} {mg : Str → Option Value} {d : DE} {name : Str} {dvs : List V} {kws : List (Str × V)} {a : Addr} {fd : FuncData} {h : Heap}
theorem DF.at (D : DF w.K name d.st dvs kws a fd) : At w.K d a fd := by
  obtain ⟨oc, od, dV, kV, doc, pm, an, cdv, ct, osl, e, lk, hcd, _, _⟩ := D.F.ex
  exact ⟨oc, od, name, name, _, dV, kV, doc, pm, an, cdv, ct, osl, e, lk, hcd⟩
abbrev FormOk (w : Wd) (ds : List DE) (mg : Str → Option Value) (p : Form) : Prop := ∃ d ∈ ds, d.f = p.f ∧ ∃ (a : Addr) (fd : FuncData) (vs : List Value) (dvs : List V), At w.K d a fd ∧ mg p.name = some (.ref a) ∧ PySem.W.keepIn w.K (.ref a) = true ∧ Binds w.K fd d.ps vs ∧ Vals dvs vs ∧ (∀ F, RepL w F p.dms dvs) ∧ p.n + dvs.length = d.ps.length
abbrev KFormOk (w : Wd) (ds : List DE) (mg : Str → Option Value) (p : KForm) : Prop := ∃ d ∈ ds, d.f = p.f ∧ ∃ (a : Addr) (fd : FuncData) (g : List Value → List Value → List Value) (gV : List V → List V → List V), At w.K d a fd ∧ mg p.name = some (.ref a) ∧ PySem.W.keepIn w.K (.ref a) = true ∧
    KBn w.K fd d.ps p.n p.ks g gV ∧ ∀ F xs vs ys zs, RepL w F xs vs → RepL w F ys zs → xs.length = p.n → ys.length = p.ks.length → RepL w F (asm p.src xs ys) (gV vs zs) ∧ (gV vs zs).length = d.ps.length
/-- called by places, all of them written -/
theorem form0 (hd : d ∈ ds) (D : DF w.K name d.st [] kws a fd) (X : w.K.In h) (G : h.Ns mainGlobals mg)
    (b : ∀ (kV doc pm : Value) (an : Option Addr) (cdv ct : Value) (us : List Value), us.length = d.ps.length → bindArgs (PySem.W.fnOf name name (defArgs d.st) (defBody d.st) (defScope d.st) .none kV doc pm an cdv ct) ⟨us, []⟩ = pure (d.ps.zip us)) :
    FormOk w ds mg ⟨d.f, name, d.ps.length, []⟩ :=
  ⟨d, hd, rfl, a, fd, [], [], D.at, PySem.W.mg_of X G D.g, D.F.kp, D.F.bindsN b, .nil, fun _ => rfl, rfl⟩
/-- called by places, all keyword-only ones lack -/
theorem formK {n : Nat} {dms : List MV} (hd : d ∈ ds) (D : DF w.K name d.st [] kws a fd) (X : w.K.In h) (G : h.Ns mainGlobals mg) (hk : kws ≠ []) (hn : n + kws.length = d.ps.length) (hr : ∀ F, RepL w F dms (kws.map (·.2)))
    (b : ∀ (D : Addr) (doc pm : Value) (an : Option Addr) (cdv ct : Value) (us ks : List Value), us.length = n → ks.length = kws.length →
      KwChain D ((kws.map (·.1)).zip ks) (bindArgs (PySem.W.fnOf name name (defArgs d.st) (defBody d.st) (defScope d.st) .none (.ref D) doc pm an cdv ct) ⟨us, []⟩) (d.ps.zip (us ++ ks))) :
    FormOk w ds mg ⟨d.f, name, n, dms⟩ := by
  obtain ⟨vs, q1, q2⟩ := D.F.binds0 n hk hn b
  exact ⟨d, hd, rfl, a, fd, vs, kws.map (·.2), D.at, PySem.W.mg_of X G D.g, D.F.kp, q2, q1, hr, by rw [List.length_map]; exact hn⟩
/-- where a parameter's value comes from -/
inductive SI where
  | p (i : Nat) | k (j : Nat) | d (m : Nat)
def gsel {α : Type} (us mv ws : List α) : List SI → List α
  | [] => []
  | .p i :: r => us[i]?.toList ++ gsel us mv ws r
  | .k j :: r => ws[j]?.toList ++ gsel us mv ws r
  | .d m :: r => mv[m]?.toList ++ gsel us mv ws r
theorem vals_get {vs : List V} {us : List Value} (h : Vals vs us) : ∀ i : Nat, Vals vs[i]?.toList us[i]?.toList := by
  induction h with
  | nil => intro i; simp; exact .nil
  | cons h t ih =>
    intro i
    cases i with
    | zero => exact .cons h .nil
    | succ i => simpa using ih i
theorem vals_app {vs vs' : List V} {us us' : List Value} (h : Vals vs us) (h2 : Vals vs' us') : Vals (vs ++ vs') (us ++ us') := by
  induction h with
  | nil => exact h2
  | cons h t ih => exact .cons h ih
theorem vals_sel {vs mz zs : List V} {us mv ws : List Value} (a : Vals vs us) (b : Vals mz mv) (c : Vals zs ws) : ∀ s : List SI, Vals (gsel vs mz zs s) (gsel us mv ws s)
  | [] => .nil
  | .p i :: r => vals_app (vals_get a i) (vals_sel a b c r)
  | .k i :: r => vals_app (vals_get c i) (vals_sel a b c r)
  | .d i :: r => vals_app (vals_get b i) (vals_sel a b c r)
def sOk (n m : Nat) (dms : List MV) : List SI → List PSrc → Bool
  | [], [] => true
  | .p i :: r, .p j :: s => i == j && decide (i < n) && sOk n m dms r s
  | .k i :: r, .k j :: s => i == j && decide (i < m) && sOk n m dms r s
  | .d i :: r, .d v :: s => (match dms[i]? with
    | some u => flatEq u v
    | none => false) && sOk n m dms r s
  | _, _ => false
theorem rep_sel {F : Hp} {xs ys dms : List MV} {vs zs mz : List V} (a : RepL w F xs vs) (b : RepL w F ys zs) (c : RepL w F dms mz) : ∀ {s : List SI} {t : List PSrc}, sOk xs.length ys.length dms s t = true → RepL w F (asm t xs ys) (gsel vs mz zs s) ∧ (gsel vs mz zs s).length = s.length
  | [], [], _ => ⟨rfl, rfl⟩
  | .p i :: r, .p j :: s, h => by
    unfold sOk at h
    simp only [Bool.and_eq_true, beq_iff_eq, decide_eq_true_eq] at h
    obtain ⟨⟨h1, h2⟩, h3⟩ := h
    subst h1
    obtain ⟨q1, q2⟩ := rep_sel a b c h3
    have e : xs[i]? = some xs[i] := List.getElem?_eq_getElem h2
    obtain ⟨v, e1, e2⟩ := a.get e
    unfold asm gsel
    rw [nth_eq, e, e1]
    exact ⟨⟨v, _, rfl, e2, q1⟩, congrArg (· + 1) q2⟩
  | .k i :: r, .k j :: s, h => by
    unfold sOk at h
    simp only [Bool.and_eq_true, beq_iff_eq, decide_eq_true_eq] at h
    obtain ⟨⟨h1, h2⟩, h3⟩ := h
    subst h1
    obtain ⟨q1, q2⟩ := rep_sel a b c h3
    have e : ys[i]? = some ys[i] := List.getElem?_eq_getElem h2
    obtain ⟨v, e1, e2⟩ := b.get e
    unfold asm gsel
    rw [nth_eq, e, e1]
    exact ⟨⟨v, _, rfl, e2, q1⟩, congrArg (· + 1) q2⟩
  | .d i :: r, .d u :: s, h => by
    unfold sOk at h
    simp only [Bool.and_eq_true] at h
    obtain ⟨h1, h3⟩ := h
    obtain ⟨q1, q2⟩ := rep_sel a b c h3
    split at h1
    · rename_i x e
      obtain ⟨v, e1, e2⟩ := c.get e
      rw [flatEq_eq h1] at e2
      unfold asm gsel
      rw [e1]
      exact ⟨⟨v, _, rfl, e2, q1⟩, congrArg (· + 1) q2⟩
    · cases h1
  | [], .p _ :: _, h => nomatch h
  | [], .k _ :: _, h => nomatch h
  | [], .d _ :: _, h => nomatch h
  | .p _ :: _, [], h => nomatch h
  | .k _ :: _, [], h => nomatch h
  | .d _ :: _, [], h => nomatch h
  | .p _ :: _, .k _ :: _, h => nomatch h
  | .p _ :: _, .d _ :: _, h => nomatch h
  | .k _ :: _, .p _ :: _, h => nomatch h
  | .k _ :: _, .d _ :: _, h => nomatch h
  | .d _ :: _, .p _ :: _, h => nomatch h
  | .d _ :: _, .k _ :: _, h => nomatch h
/-- called with keywords; ms: the keyword-only ones that lack -/
theorem kform0 {n : Nat} {ks : List Str} {src : List PSrc} {dms : List MV} (s : List SI) (ms : List (Str × V)) (hd : d ∈ ds) (D : DF w.K name d.st [] kws a fd) (X : w.K.In h) (G : h.Ns mainGlobals mg) (hk : kws ≠ []) (hms : ∀ q ∈ ms, q ∈ kws)
    (hr : ∀ F, RepL w F dms (ms.map (·.2))) (hs : sOk n ks.length dms s src = true) (hl : s.length = d.ps.length)
    (b : ∀ (D : Addr) (doc pm : Value) (an : Option Addr) (cdv ct : Value) (us mv ws : List Value), us.length = n → mv.length = ms.length → ws.length = ks.length →
      KwChain D ((ms.map (·.1)).zip mv) (bindArgs (PySem.W.fnOf name name (defArgs d.st) (defBody d.st) (defScope d.st) .none (.ref D) doc pm an cdv ct) ⟨us, ks.zip ws⟩) (d.ps.zip (gsel us mv ws s))) :
    KFormOk w ds mg ⟨d.f, name, n, ks, src⟩ := by
  obtain ⟨oc, od, dV, kV, doc, pm, an, cdv, ct, osl, e, lk, hcd, hD, hK⟩ := D.F.ex
  rcases hD with ⟨_, rfl⟩ | ⟨e, _⟩
  · rcases hK with e | ⟨Dd, rfl, hq⟩
    · exact absurd e hk
    · obtain ⟨mv, hl2, rk, hks⟩ := kwd_vals (ms := ms) fun q hm => hq q (hms q hm)
      refine ⟨d, hd, rfl, a, fd, fun us ws => gsel us mv ws s, fun vs zs => gsel vs (ms.map (·.2)) zs s, D.at, PySem.W.mg_of X G D.g, D.F.kp, ⟨fun s us ws X l1 l2 => ?_, fun r1 r2 => vals_sel r1 rk r2 _⟩, fun F xs vs ys zs r1 r2 l1 l2 => ?_⟩
      · rw [e]
        exact BindsTo.of_looks fun M => KwChain.looks X hks (b Dd doc pm an cdv ct us mv ws l1 hl2 l2)
      · obtain ⟨q1, q2⟩ := rep_sel r1 r2 (hr F) (s := s) (t := src) (by rw [l1, l2]; exact hs)
        exact ⟨q1, q2.trans hl⟩
  · exact absurd rfl e
end
/-- THE END: the text keeps the law if the plain program does -/
theorem mp_walk {l : PySem.W.OpenLaw} {q : Program} {loose : List Str} {XP : (Str → Option Value) → Heap → Prop} {YP : World → Heap → Prop} {d : DefRec} {K : Params → PySem.W.Frag} {T : Tab} {pr : Nat → MF} {ds : List DE} {x : Str} {dL : DE} (k : Nat) (cad : PySem.W.Frag → Nat → Addr) (fnm : Nat → Str)
    (hn : l.most = some 63) (hdf : d.params.defaults = []) (hr : Room k callerA) (hY : ∀ (w : World) (h : Heap), YP w h → (K w.params).In h) (hd : dL ∈ ds) (hx : dL.ps = [x]) (hok : okDefs T pr ds = true)
    (F : ∀ (w : World) (mg : Str → Option Value) (fa : Addr) (h : Heap), (K w.params).In h → h.Ns mainGlobals mg → mg d.name = some (.ref fa) →
      ∃ fd : FuncData, At (K w.params) dL fa fd ∧ (∀ (s : Shared) (u : Value), BindsTo s fd ⟨[u], []⟩ [(x, u)]) ∧ ∀ base : Heap, (K w.params).In base → base.Ns mainGlobals mg → Lk ⟨K w.params, cad (K w.params), fnm⟩ T ds l.prog w mg base)
    (law : ∀ ns : List Int, ns.length ≤ 63 → callN pr k dL.f [.klst (ns.map .int)] (fun _ => none) (fun v _ => v = .bl true) fun _ _ => False) :
    PySem.W.WalkO q loose XP YP l.row.toRowW d [] (fun f vs => PySem.call f vs) := by
  refine L2.walk_of (n := 63) (k := k) (x := x) (CX := fun w => L2.CX l.prog w) (sp := fun w => spM ⟨K w.params, cad (K w.params), fnm⟩ (callN pr k) dL.f 1) hn (by decide) hdf hr hY ?_ ?_ ?_
  · intro w mg fa h X G hm
    obtain ⟨fd, a1, a2, a3⟩ := F w mg fa h X G hm
    refine ⟨fd, a2, fun base X2 G2 => ?_⟩
    have q := all_fns (a3 base X2 G2) hok k dL hd fa fd a1
    rw [hx] at q
    exact q
  · intro w H a ns hl hO hS
    refine ⟨rfl, H, fun _ => none, [.klst (ns.map .int)], _, _, ⟨fun _ _ h => h, fun _ _ h => nomatch h⟩, ⟨.ref a, [], rfl, ?_, rfl⟩, law ns hl, ?_, ?_⟩
    · have rl : ∀ l : List Int, RepL ⟨K w.params, cad (K w.params), fnm⟩ H (l.map .int) (l.map V.int) := fun l => by
        induction l with
        | nil => rfl
        | cons a r ih => exact ⟨_, _, rfl, rfl, ih⟩
      refine ⟨a, ns.map V.int, rfl, ?_, rl ns⟩
      rcases hS with h1 | h1
      · rcases h1 with h1 | ⟨o, h1⟩
        · rcases hO a with h2 | ⟨o, xs, h2⟩
          · rw [h1] at h2; cases h2
          · rw [h1] at h2; cases h2
        · exact .inl ⟨o, h1⟩
      · exact .inr h1
    · intro F' G' H' x v _ _ r h
      subst h
      exact r
    · intro F' G' H' ex cls dd _ _ _ h
      exact h.elim
  · rintro w H s e s' ⟨_, _, _, _, _, _, _, _, _, _, _, _, _, hE⟩
end MP

set_option Elab.async false
set_option linter.all false
set_option maxRecDepth 1000000
set_option maxHeartbeats 4000000
namespace MP
open PySem PySem.Spec PyProof.Rows L2
/-! # the law's program in small (printed by gen.py) -/
def f0 : MF := ⟨2, 1, [
  .ite (.or (.not (.prim .isinst [.var 0, .ty .str])) (.not (.chain .LtE .LtE (.cst (.int 1)) (.prim .len [.var 0]) (.glob "LONGEST_NAME" (.int 8))))) [
    .ret (.cst (.bl false))] [],
  .ret (.prim .all [.lc (.nm 1) .val [.var 0] [] (.cmp .In (.var 1) (.glob "LETTERS" (.str [97, 98, 99, 100, 101, 102, 103, 104, 105, 106, 107, 108, 109, 110, 111, 112, 113, 114, 115, 116, 117, 118, 119, 120, 121, 122]))) [1]])]⟩  -- is_name(value=0, letter=1)
def f1 : MF := ⟨3, 3, [
  .ret (.and (.prim .isinst [.var 0, .ty .int]) (.and (.not (.prim .isinst [.var 0, .ty .bool])) (.chain .LtE .LtE (.var 1) (.var 0) (.var 2))))]⟩  -- is_integer(value=0, low=1, high=2)
def f2 : MF := ⟨5, 3, [
  .ite (.or (.not (.prim .isinst [.var 0, .ty .str])) (.or (.cmp .Eq (.var 0) (.cst (.str []))) (.not (.prim .all [.lc (.nm 4) .val [.var 0] [] (.cmp .In (.var 4) (.glob "DIGITS" (.str [48, 49, 50, 51, 52, 53, 54, 55, 56, 57]))) [4]])))) [
    .ret (.cst .non)] [],
  .ite (.and (.cmp .Eq (.idx (.var 0) (.cst (.int 0))) (.cst (.str [48]))) (.cmp .NotEq (.var 0) (.cst (.str [48])))) [
    .ret (.cst .non)] [],
  .asg (.nm 3) (.prim .int [.var 0]),
  .ret (.ite (.chain .LtE .LtE (.var 1) (.var 3) (.var 2)) (.var 3) (.cst .non))]⟩  -- parse_integer(text=0, low=1, high=2, number=3, digit=4)
def f3 : MF := ⟨3, 1, [
  .ite (.not (.prim .isinst [.var 0, .ty .str])) [
    .ret (.cst .non)] [],
  .asg (.nm 1) (.meth .split (.var 0) [.cst (.str [32])]),
  .ret (.ite (.prim .any [.lc (.nm 2) .val [.var 1] [] (.or (.cmp .Eq (.var 2) (.cst (.str []))) (.cmp .In (.cst (.str [10])) (.var 2))) [2]]) (.cst .non) (.var 1))]⟩  -- split_words(text=0, words=1, word=2)
def f4 : MF := ⟨2, 2, [
  .ite (.cmp .Lt (.var 1) (.prim .len [.var 0])) [
    .ret (.idx (.var 0) (.var 1))] [],
  .ret (.bin .Add (.bin .Mult (.cst (.int 7919)) (.var 1)) (.cst (.int 101)))]⟩  -- _law_cell(_law_script=0, _law_index=1)
def f5 : MF := ⟨1, 1, [
  .ret (.lst [.prim .max2 [.cst (.int 0), .bin .Sub (.var 0) (.bin .Pow (.cst (.int 10)) (.cst (.int 18)))], .bin .Mod (.var 0) (.cst (.int 2147483629)), .cst (.int 0)])]⟩  -- _law_bag(_law_cell_here=0)
def f6 : MF := ⟨4, 2, [
  .ite (.cmp .Gt (.idx (.var 0) (.cst (.int 0))) (.cst (.int 0))) [
    .asg (.nm 3) (.bin .Mod (.idx (.var 0) (.cst (.int 0))) (.var 1)),
    .setI (.var 0) (.cst (.int 0)) (.bin .FloorDiv (.idx (.var 0) (.cst (.int 0))) (.var 1)),
    .ret (.var 3)] [],
  .setI (.var 0) (.cst (.int 2)) (.bin .Add (.idx (.var 0) (.cst (.int 2))) (.cst (.int 1))),
  .asg (.nm 2) (.bin .Mod (.bin .Pow (.bin .Add (.bin .Add (.idx (.var 0) (.cst (.int 1))) (.bin .Mult (.cst (.int 7919)) (.idx (.var 0) (.cst (.int 2))))) (.cst (.int 101))) (.cst (.int 5))) (.cst (.int 2147483647))),
  .asg (.nm 2) (.bin .Mod (.bin .Pow (.bin .Add (.var 2) (.bin .Mult (.cst (.int 104729)) (.idx (.var 0) (.cst (.int 2))))) (.cst (.int 3))) (.cst (.int 2147483587))),
  .ret (.bin .Mod (.bin .FloorDiv (.var 2) (.cst (.int 16))) (.var 1))]⟩  -- _law_take(_law_bag_here=0, _law_count=1, _law_mixed=2, _law_digit=3)
def f7 : MF := ⟨2, 1, [
  .asg (.nm 1) (.cst (.str [32, 33, 34, 35, 36, 38, 39, 40, 41, 42, 43, 44, 45, 46, 47, 48, 49, 50, 51, 52, 53, 54, 55, 56, 57, 58, 59, 60, 61, 62, 63, 64, 65, 66, 67, 68, 69, 70, 71, 72, 73, 74, 75, 76, 77, 78, 79, 80, 81, 82, 83, 84, 85, 86, 87, 88, 89, 90, 91, 92, 93, 94, 95, 96, 97, 98, 99, 100, 101, 102, 103, 104, 105, 106, 107, 108, 109, 110, 111, 112, 113, 114, 115, 116, 117, 118, 119, 120, 121, 122, 123, 124, 125, 126, 10])),
  .ret (.idx (.var 1) (.call 6 [.var 0, .cst (.int 95)] []))]⟩  -- _law_any_character(_law_bag_here=0, _law_some=1)
def f8 : MF := ⟨6, 1, [
  .asg (.nm 1) (.cst (.str [97, 98, 99, 100, 101, 102, 103, 104, 105, 106, 107, 108, 109, 110, 111, 112, 113, 114, 115, 116, 117, 118, 119, 120, 121, 122])),
  .asg (.nm 2) (.meth .join (.cst (.str [])) [.lc (.nm 5) .range [.call 6 [.var 0, .cst (.int 11)] []] [] (.idx (.var 1) (.call 6 [.var 0, .cst (.int 26)] [])) [5]]),
  .ite (.cmp .Eq (.call 6 [.var 0, .cst (.int 3)] []) (.cst (.int 0))) [
    .asg (.nm 3) (.call 6 [.var 0, .bin .Add (.prim .len [.var 2]) (.cst (.int 1))] []),
    .asg (.nm 4) (.slice (.var 2) (.bin .Add (.var 3) (.call 6 [.var 0, .cst (.int 2)] [])) .nop),
    .asg (.nm 2) (.bin .Add (.bin .Add (.slice (.var 2) .nop (.var 3)) (.call 7 [.var 0] [])) (.var 4))] [],
  .ret (.var 2)]⟩  -- _law_text(_law_bag_here=0, _law_letters=1, _law_text_here=2, _law_at=3, _law_behind=4, _law_index=5)
def f9 : MF := ⟨5, 1, [
  .asg (.nm 1) (.meth .join (.cst (.str [])) [.lc (.nm 4) .range [.idx (.lst [.cst (.int 1), .cst (.int 2), .cst (.int 3), .cst (.int 6), .cst (.int 7), .cst (.int 30)]) (.call 6 [.var 0, .cst (.int 6)] [])] [] (.idx (.cst (.str [48, 49, 50, 51, 52, 53, 54, 55, 56, 57])) (.call 6 [.var 0, .cst (.int 10)] [])) [4]]),
  .asg (.nm 2) (.call 6 [.var 0, .cst (.int 7)] []),
  .ite (.cmp .Eq (.var 2) (.cst (.int 0))) [
    .ret (.bin .Add (.bin .Mult (.cst (.str [48])) (.bin .Add (.cst (.int 1)) (.call 6 [.var 0, .cst (.int 3)] []))) (.var 1))] [],
  .ite (.cmp .Eq (.var 2) (.cst (.int 1))) [
    .asg (.nm 3) (.call 6 [.var 0, .bin .Add (.prim .len [.var 1]) (.cst (.int 1))] []),
    .ret (.bin .Add (.bin .Add (.slice (.var 1) .nop (.var 3)) (.call 7 [.var 0] [])) (.slice (.var 1) (.var 3) .nop))] [],
  .ret (.idx (.lst [.cst (.str [57, 57, 57, 57, 57, 57]), .cst (.str [49, 48, 48, 48, 48, 48, 48]), .cst (.str [48]), .meth .strip1 (.var 1) [.cst (.str [48])], .var 1]) (.bin .Sub (.var 2) (.cst (.int 2))))]⟩  -- _law_digits(_law_bag_here=0, _law_text_here=1, _law_way=2, _law_at=3, _law_index=4)
def f10 : MF := ⟨3, 1, [
  .asg (.nm 1) (.meth .join (.cst (.str [32])) [.lc (.nm 2) .range [.bin .Add (.cst (.int 1)) (.call 6 [.var 0, .cst (.int 4)] [])] [] (.call 8 [.var 0] []) [2]]),
  .ret (.idx (.lst [.var 1, .var 1, .var 1, .bin .Add (.cst (.str [32])) (.var 1), .bin .Add (.var 1) (.cst (.str [32])), .bin .Add (.bin .Add (.var 1) (.cst (.str [10]))) (.var 1), .meth .strip1 (.var 1) [.cst (.str [32])]]) (.call 6 [.var 0, .cst (.int 7)] []))]⟩  -- _law_words_text(_law_bag_here=0, _law_text_here=1, _law_index=2)
def f11 : MF := ⟨2, 1, [
  .asg (.nm 1) (.lst [.cst .non, .cst (.bl true), .cst (.bl false), .cst (.int 0), .neg (.cst (.int 1)), .bin .Pow (.cst (.int 10)) (.cst (.int 29)), .bin .Sub (.cst (.int 0)) (.bin .Pow (.cst (.int 10)) (.cst (.int 29))), .tup [], .lst [], .dct [] [], .tup [.cst (.str [97])], .lst [.cst (.str [97])], .dct [.inr [97]] [.cst (.int 1)], .tup [.cst (.str [97]), .cst (.str [98])]]),
  .ret (.idx (.bin .Add (.var 1) (.lst [.lst [.cst (.int 0)], .tup [.cst (.int 1)]])) (.call 6 [.var 0, .cst (.int 16)] []))]⟩  -- _law_odd(_law_bag_here=0, _law_some=1)
def f12 : MF := ⟨2, 1, [
  .ite (.or (.not (.prim .isinst [.var 0, .ty .str])) (.or (.cmp .Lt (.prim .len [.var 0]) (.cst (.int 1))) (.cmp .Gt (.prim .len [.var 0]) (.cst (.int 8))))) [
    .ret (.cst (.bl false))] [],
  .ret (.cmp .Eq (.lc (.nm 1) .val [.var 0] [.cmp .NotIn (.var 1) (.cst (.str [97, 98, 99, 100, 101, 102, 103, 104, 105, 106, 107, 108, 109, 110, 111, 112, 113, 114, 115, 116, 117, 118, 119, 120, 121, 122]))] (.var 1) [1]) (.lst []))]⟩  -- _law_is_name(_law_value=0, _law_one=1)
def f13 : MF := ⟨5, 3, [
  .ite (.or (.not (.prim .isinst [.var 0, .ty .str])) (.or (.cmp .Eq (.var 0) (.cst (.str []))) (.cmp .NotEq (.lc (.nm 4) .val [.var 0] [.cmp .NotIn (.var 4) (.cst (.str [48, 49, 50, 51, 52, 53, 54, 55, 56, 57]))] (.var 4) [4]) (.lst [])))) [
    .ret (.cst .non)] [],
  .ite (.and (.cmp .Eq (.idx (.var 0) (.cst (.int 0))) (.cst (.str [48]))) (.cmp .Gt (.prim .len [.var 0]) (.cst (.int 1)))) [
    .ret (.cst .non)] [],
  .asg (.nm 3) (.cst (.int 0)),
  .for (.nm 4) .val [.var 0] [
    .asg (.nm 3) (.bin .Add (.bin .Mult (.cst (.int 10)) (.var 3)) (.meth .sindex (.cst (.str [48, 49, 50, 51, 52, 53, 54, 55, 56, 57])) [.var 4]))],
  .ret (.ite (.chain .LtE .LtE (.var 1) (.var 3) (.var 2)) (.var 3) (.cst .non))]⟩  -- _law_parsed(_law_value=0, _law_least=1, _law_most=2, _law_number=3, _law_one=4)
def f14 : MF := ⟨3, 1, [
  .ite (.or (.not (.prim .isinst [.var 0, .ty .str])) (.cmp .In (.cst (.str [10])) (.var 0))) [
    .ret (.cst .non)] [],
  .asg (.nm 1) (.lst [.cst (.str [])]),
  .for (.nm 2) .val [.var 0] [
    .ite (.cmp .Eq (.var 2) (.cst (.str [32]))) [
      .expr (.meth .append (.var 1) [.cst (.str [])])] [
      .setI (.var 1) (.neg (.cst (.int 1))) (.bin .Add (.idx (.var 1) (.neg (.cst (.int 1)))) (.var 2))]],
  .ret (.ite (.cmp .In (.cst (.str [])) (.var 1)) (.cst .non) (.var 1))]⟩  -- _law_words(_law_value=0, _law_words_here=1, _law_one=2)
def f15 : MF := ⟨2, 2, [
  .ite (.prim .isinst [.var 1, .ty .bool]) [
    .ret (.and (.prim .isinst [.var 0, .ty .bool]) (.cmp .Eq (.var 0) (.var 1)))] [],
  .ite (.cmp .Is (.var 1) (.cst .non)) [
    .ret (.cmp .Is (.var 0) (.cst .non))] [],
  .ret (.and (.prim .isinst [.var 0, .ty .int]) (.and (.not (.prim .isinst [.var 0, .ty .bool])) (.cmp .Eq (.var 0) (.var 1))))]⟩  -- _law_same(_law_actual=0, _law_expected=1)
def f16 : MF := ⟨10, 3, [
  .asg (.nm 3) (.and (.prim .isinst [.var 0, .ty .int]) (.and (.not (.prim .isinst [.var 0, .ty .bool])) (.chain .LtE .LtE (.var 1) (.var 0) (.var 2)))),
  .ite (.or (.not (.call 15 [.call 0 [.var 0] [], .call 12 [.var 0] []] [])) (.not (.call 15 [.call 1 [.var 0, .var 1, .var 2] [], .var 3] []))) [
    .ret (.cst (.bl false))] [],
  .asg (.nm 4) (.lst [.callK 2 [.var 0] [.var 1, .var 2] [.p 0, .k 0, .k 1], .call 2 [.var 0] [.int 0, .int 999999], .callK 2 [.var 0] [.var 2] [.p 0, .d (.int 0), .k 0]]),
  .expr (.meth .append (.var 4) [.callK 2 [.var 0] [.var 1] [.p 0, .k 0, .d (.int 999999)]]),
  .asg (.nm 5) (.lst [.call 13 [.var 0, .var 1, .var 2] [], .call 13 [.var 0, .cst (.int 0), .cst (.int 999999)] [], .call 13 [.var 0, .cst (.int 0), .var 2] []]),
  .expr (.meth .append (.var 5) [.call 13 [.var 0, .var 1, .cst (.int 999999)] []]),
  .ite (.cmp .NotEq (.lc (.nm 9) .range [.cst (.int 4)] [.not (.call 15 [.idx (.var 4) (.var 9), .idx (.var 5) (.var 9)] [])] (.var 9) [9]) (.lst [])) [
    .ret (.cst (.bl false))] [],
  .asg (.nm 6) (.call 14 [.var 0] []),
  .for (.nm 7) .range [.cst (.int 2)] [
    .asg (.nm 8) (.call 3 [.var 0] []),
    .ite (.or (.and (.cmp .Is (.var 6) (.cst .non)) (.cmp .IsNot (.var 8) (.cst .non))) (.or (.and (.cmp .IsNot (.var 6) (.cst .non)) (.not (.prim .isinst [.var 8, .ty .list]))) (.cmp .NotEq (.var 8) (.var 6)))) [
      .ret (.cst (.bl false))] [],
    .ite (.cmp .IsNot (.var 8) (.cst .non)) [
      .expr (.meth .append (.var 8) [.cst (.str [109, 111, 114, 101])])] []],
  .ret (.cst (.bl true))]⟩  -- _law_value_right(_law_value=0, _law_least=1, _law_most=2, _law_whole=3, _law_actual=4, _law_expected=5, _law_words_here=6, _law_turn=7, _law_found=8, _law_k=9)
def f17 : MF := ⟨7, 1, [
  .for (.nm 1) .range [.prim .max2 [.cst (.int 2), .prim .min2 [.cst (.int 8), .prim .len [.var 0]]]] [
    .asg (.nm 2) (.call 5 [.call 4 [.var 0, .var 1] []] []),
    .par 5 6 (.bin .Sub (.call 6 [.var 2, .cst (.int 9)] []) (.cst (.int 4))) (.idx (.lst [.bin .Sub (.call 6 [.var 2, .cst (.int 9)] []) (.cst (.int 2)), .bin .Pow (.cst (.int 10)) (.cst (.int 9)), .bin .Pow (.cst (.int 10)) (.cst (.int 29))]) (.call 6 [.var 2, .cst (.int 3)] [])),
    .asg (.nm 3) (.lst [.call 8 [.var 2] [], .call 8 [.var 2] [], .call 9 [.var 2] [], .call 9 [.var 2] [], .call 10 [.var 2] []]),
    .asg (.nm 3) (.bin .Add (.var 3) (.lst [.call 11 [.var 2] [], .var 5, .var 6, .bin .Sub (.var 5) (.cst (.int 1)), .bin .Add (.var 6) (.cst (.int 1)), .prim .str [.prim .abs [.var 5]], .prim .str [.prim .abs [.var 6]], .bin .Mult (.cst (.str [97])) (.cst (.int 8))])),
    .asg (.nm 3) (.bin .Add (.var 3) (.lst [.prim .str [.bin .Add (.prim .abs [.var 6]) (.cst (.int 1))], .bin .Mult (.cst (.str [97])) (.cst (.int 9)), .prim .str [.var 5], .cst (.str [45, 53]), .cst (.str [43, 53]), .cst (.str [32, 53]), .cst (.str [53, 32]), .cst (.str [53, 10]), .cst (.str [10, 53]), .cst (.str [49, 95, 48])])),
    .asg (.nm 3) (.bin .Add (.var 3) (.lst [.cst (.str [48, 48]), .cst (.str [53, 46, 48]), .bin .Add (.bin .Add (.bin .Mult (.cst (.str [97])) (.cst (.int 40))) (.cst (.str [32]))) (.bin .Mult (.cst (.str [98])) (.cst (.int 150))), .meth .join (.cst (.str [32])) [.bin .Mult (.lst [.cst (.str [97, 98])]) (.cst (.int 60))]])),
    .asg (.nm 3) (.bin .Add (.var 3) (.lst [.cst (.str [48]), .cst (.str []), .cst (.str [48, 53]), .cst (.str [97, 10]), .cst (.str [97, 32, 98, 10]), .cst (.str [10, 97, 32, 98]), .cst (.str [97, 32, 32, 98]), .cst (.str [65]), .cst (.str [97, 49]), .cst (.str [48, 120, 49]), .cst (.str [53, 10, 53])])),
    .for (.nm 4) .val [.var 3] [
      .ite (.not (.call 16 [.var 4, .var 5, .var 6] [])) [
        .ret (.cst (.bl false))] []]],
  .ret (.cst (.bl true))]⟩  -- law(_law_script=0, _law_index=1, _law_bag_here=2, _law_values=3, _law_value=4, _law_least=5, _law_most=6)
def pr : Nat → MF
  | 0 => f0
  | 1 => f1
  | 2 => f2
  | 3 => f3
  | 4 => f4
  | 5 => f5
  | 6 => f6
  | 7 => f7
  | 8 => f8
  | 9 => f9
  | 10 => f10
  | 11 => f11
  | 12 => f12
  | 13 => f13
  | 14 => f14
  | 15 => f15
  | 16 => f16
  | 17 => f17
  | _ => ⟨0, 0, []⟩
def top (i : Nat) : Stmt := PySem.Challenge.pw_resampler_k01_names_integers_words.main.body.getD i (.Pass ⟨0, 0, 0, 0⟩)
def d0 : DE := ⟨0, top 4, ["value", "letter"], ["value"]⟩
def d1 : DE := ⟨1, top 5, ["value", "low", "high"], ["value", "low", "high"]⟩
def d2 : DE := ⟨2, top 6, ["text", "low", "high", "number", "digit"], ["text", "low", "high"]⟩
def d3 : DE := ⟨3, top 7, ["text", "words", "word"], ["text"]⟩
def d4 : DE := ⟨4, top 9, ["_law_script", "_law_index"], ["_law_script", "_law_index"]⟩
def d5 : DE := ⟨5, top 10, ["_law_cell_here"], ["_law_cell_here"]⟩
def d6 : DE := ⟨6, top 11, ["_law_bag_here", "_law_count", "_law_mixed", "_law_digit"], ["_law_bag_here", "_law_count"]⟩
def d7 : DE := ⟨7, top 12, ["_law_bag_here", "_law_some"], ["_law_bag_here"]⟩
def d8 : DE := ⟨8, top 13, ["_law_bag_here", "_law_letters", "_law_text_here", "_law_at", "_law_behind", "_law_index"], ["_law_bag_here"]⟩
def d9 : DE := ⟨9, top 14, ["_law_bag_here", "_law_text_here", "_law_way", "_law_at", "_law_index"], ["_law_bag_here"]⟩
def d10 : DE := ⟨10, top 15, ["_law_bag_here", "_law_text_here", "_law_index"], ["_law_bag_here"]⟩
def d11 : DE := ⟨11, top 16, ["_law_bag_here", "_law_some"], ["_law_bag_here"]⟩
def d12 : DE := ⟨12, top 17, ["_law_value", "_law_one"], ["_law_value"]⟩
def d13 : DE := ⟨13, top 18, ["_law_value", "_law_least", "_law_most", "_law_number", "_law_one"], ["_law_value", "_law_least", "_law_most"]⟩
def d14 : DE := ⟨14, top 19, ["_law_value", "_law_words_here", "_law_one"], ["_law_value"]⟩
def d15 : DE := ⟨15, top 20, ["_law_actual", "_law_expected"], ["_law_actual", "_law_expected"]⟩
def d16 : DE := ⟨16, top 21, ["_law_value", "_law_least", "_law_most", "_law_whole", "_law_actual", "_law_expected", "_law_words_here", "_law_turn", "_law_found", "_law_k"], ["_law_value", "_law_least", "_law_most"]⟩
def d17 : DE := ⟨17, top 22, ["_law_script", "_law_index", "_law_bag_here", "_law_values", "_law_value", "_law_least", "_law_most"], ["_law_script"]⟩
def ds : List DE := [d0, d1, d2, d3, d4, d5, d6, d7, d8, d9, d10, d11, d12, d13, d14, d15, d16, d17]
def tb : Tab where
  globs := [("LONGEST_NAME", .int 8), ("LETTERS", .str [97, 98, 99, 100, 101, 102, 103, 104, 105, 106, 107, 108, 109, 110, 111, 112, 113, 114, 115, 116, 117, 118, 119, 120, 121, 122]), ("DIGITS", .str [48, 49, 50, 51, 52, 53, 54, 55, 56, 57])]
  forms := [⟨0, "is_name", 1, []⟩, ⟨1, "is_integer", 3, []⟩, ⟨2, "parse_integer", 1, [.int 0, .int 999999]⟩, ⟨3, "split_words", 1, []⟩, ⟨4, "_law_cell", 2, []⟩, ⟨5, "_law_bag", 1, []⟩, ⟨6, "_law_take", 2, []⟩, ⟨7, "_law_any_character", 1, []⟩, ⟨8, "_law_text", 1, []⟩, ⟨9, "_law_digits", 1, []⟩, ⟨10, "_law_words_text", 1, []⟩, ⟨11, "_law_odd", 1, []⟩, ⟨12, "_law_is_name", 1, []⟩, ⟨13, "_law_parsed", 3, []⟩, ⟨14, "_law_words", 1, []⟩, ⟨15, "_law_same", 2, []⟩, ⟨16, "_law_value_right", 3, []⟩]
  kforms := [⟨2, "parse_integer", 1, ["low", "high"], [.p 0, .k 0, .k 1]⟩, ⟨2, "parse_integer", 1, ["high"], [.p 0, .d (.int 0), .k 0]⟩, ⟨2, "parse_integer", 1, ["low"], [.p 0, .k 0, .d (.int 999999)]⟩]
theorem ok_all : okDefs tb pr ds = true := by decide +kernel
theorem lk_mk {w : Wd} {P : Program} {wd : World} {mg : Str → Option Value} {base h : Heap} (X : w.K.In h) (G : h.Ns mainGlobals mg)
    {a0 : Addr} {fd0 : FuncData} (D0 : DF w.K "is_name" d0.st [] [] a0 fd0) {a1 : Addr} {fd1 : FuncData} (D1 : DF w.K "is_integer" d1.st [] [] a1 fd1) {a2 : Addr} {fd2 : FuncData} (D2 : DF w.K "parse_integer" d2.st [] [("low", V.int 0), ("high", V.int 999999)] a2 fd2) {a3 : Addr} {fd3 : FuncData} (D3 : DF w.K "split_words" d3.st [] [] a3 fd3) {a4 : Addr} {fd4 : FuncData} (D4 : DF w.K "_law_cell" d4.st [] [] a4 fd4) {a5 : Addr} {fd5 : FuncData} (D5 : DF w.K "_law_bag" d5.st [] [] a5 fd5) {a6 : Addr} {fd6 : FuncData} (D6 : DF w.K "_law_take" d6.st [] [] a6 fd6) {a7 : Addr} {fd7 : FuncData} (D7 : DF w.K "_law_any_character" d7.st [] [] a7 fd7) {a8 : Addr} {fd8 : FuncData} (D8 : DF w.K "_law_text" d8.st [] [] a8 fd8) {a9 : Addr} {fd9 : FuncData} (D9 : DF w.K "_law_digits" d9.st [] [] a9 fd9) {a10 : Addr} {fd10 : FuncData} (D10 : DF w.K "_law_words_text" d10.st [] [] a10 fd10) {a11 : Addr} {fd11 : FuncData} (D11 : DF w.K "_law_odd" d11.st [] [] a11 fd11) {a12 : Addr} {fd12 : FuncData} (D12 : DF w.K "_law_is_name" d12.st [] [] a12 fd12) {a13 : Addr} {fd13 : FuncData} (D13 : DF w.K "_law_parsed" d13.st [] [] a13 fd13) {a14 : Addr} {fd14 : FuncData} (D14 : DF w.K "_law_words" d14.st [] [] a14 fd14) {a15 : Addr} {fd15 : FuncData} (D15 : DF w.K "_law_same" d15.st [] [] a15 fd15) {a16 : Addr} {fd16 : FuncData} (D16 : DF w.K "_law_value_right" d16.st [] [] a16 fd16) {a17 : Addr} {fd17 : FuncData} (D17 : DF w.K "law" d17.st [] [] a17 fd17)
    {u_LONGEST_NAME : Value} (g_LONGEST_NAME : PySem.W.nsIn w.K mainGlobals "LONGEST_NAME" = some (some u_LONGEST_NAME)) (r_LONGEST_NAME : RelV (V.int 8) u_LONGEST_NAME) {u_LETTERS : Value} (g_LETTERS : PySem.W.nsIn w.K mainGlobals "LETTERS" = some (some u_LETTERS)) (r_LETTERS : RelV (V.str ⟨#[97, 98, 99, 100, 101, 102, 103, 104, 105, 106, 107, 108, 109, 110, 111, 112, 113, 114, 115, 116, 117, 118, 119, 120, 121, 122]⟩) u_LETTERS) {u_DIGITS : Value} (g_DIGITS : PySem.W.nsIn w.K mainGlobals "DIGITS" = some (some u_DIGITS)) (r_DIGITS : RelV (V.str ⟨#[48, 49, 50, 51, 52, 53, 54, 55, 56, 57]⟩) u_DIGITS)
    (z_abs : PySem.W.nsIn w.K mainGlobals "abs" = some none) (z_all : PySem.W.nsIn w.K mainGlobals "all" = some none) (z_any : PySem.W.nsIn w.K mainGlobals "any" = some none) (z_bool : PySem.W.nsIn w.K mainGlobals "bool" = some none) (z_dict : PySem.W.nsIn w.K mainGlobals "dict" = some none) (z_int : PySem.W.nsIn w.K mainGlobals "int" = some none) (z_isinstance : PySem.W.nsIn w.K mainGlobals "isinstance" = some none) (z_len : PySem.W.nsIn w.K mainGlobals "len" = some none) (z_list : PySem.W.nsIn w.K mainGlobals "list" = some none) (z_max : PySem.W.nsIn w.K mainGlobals "max" = some none) (z_min : PySem.W.nsIn w.K mainGlobals "min" = some none) (z_range : PySem.W.nsIn w.K mainGlobals "range" = some none) (z_str : PySem.W.nsIn w.K mainGlobals "str" = some none) (z_tuple : PySem.W.nsIn w.K mainGlobals "tuple" = some none) : Lk w tb ds P wd mg base where
  bltB := fun p => by cases p <;> first | exact PySem.W.mg_none_of X G z_len | exact PySem.W.mg_none_of X G z_isinstance | exact PySem.W.mg_none_of X G z_abs | exact PySem.W.mg_none_of X G z_max | exact PySem.W.mg_none_of X G z_min | exact PySem.W.mg_none_of X G z_int | exact PySem.W.mg_none_of X G z_str | exact PySem.W.mg_none_of X G z_all | exact PySem.W.mg_none_of X G z_any | exact PySem.W.mg_none_of X G z_list | exact PySem.W.mg_none_of X G z_tuple
  bltT := fun t h => by cases t <;> first | exact absurd rfl h | exact PySem.W.mg_none_of X G z_bool | exact PySem.W.mg_none_of X G z_int | exact PySem.W.mg_none_of X G z_str | exact PySem.W.mg_none_of X G z_list | exact PySem.W.mg_none_of X G z_tuple | exact PySem.W.mg_none_of X G z_dict
  rng := PySem.W.mg_none_of X G z_range
  glob := all_cons ⟨_, u_LONGEST_NAME, PySem.W.mg_of X G g_LONGEST_NAME, r_LONGEST_NAME, fun _ => rfl⟩ (all_cons ⟨_, u_LETTERS, PySem.W.mg_of X G g_LETTERS, r_LETTERS, fun _ => ⟨rfl, okTx_ok (by decide +kernel)⟩⟩ (all_cons ⟨_, u_DIGITS, PySem.W.mg_of X G g_DIGITS, r_DIGITS, fun _ => ⟨rfl, okTx_ok (by decide +kernel)⟩⟩ (all_nil)))
  form := all_cons (form0 (d := d0) (by simp [ds]) D0 X G (fun _ _ _ _ _ _ us hl => match us, hl with | [_], _ => rfl))
    (all_cons (form0 (d := d1) (by simp [ds]) D1 X G (fun _ _ _ _ _ _ us hl => match us, hl with | [_, _, _], _ => rfl))
    (all_cons (formK (d := d2) (n := 1) (by simp [ds]) D2 X G (by simp) rfl (fun _ => ⟨_, _, rfl, rfl, ⟨_, _, rfl, rfl, rfl⟩⟩) (fun _ _ _ _ _ _ us ks h1 h2 => match us, ks, h1, h2 with | [_], [_, _], _, _ => ⟨_, _, _, _, _, _, rfl, rfl, ⟨_, _, _, _, _, _, rfl, rfl, rfl⟩⟩))
    (all_cons (form0 (d := d3) (by simp [ds]) D3 X G (fun _ _ _ _ _ _ us hl => match us, hl with | [_], _ => rfl))
    (all_cons (form0 (d := d4) (by simp [ds]) D4 X G (fun _ _ _ _ _ _ us hl => match us, hl with | [_, _], _ => rfl))
    (all_cons (form0 (d := d5) (by simp [ds]) D5 X G (fun _ _ _ _ _ _ us hl => match us, hl with | [_], _ => rfl))
    (all_cons (form0 (d := d6) (by simp [ds]) D6 X G (fun _ _ _ _ _ _ us hl => match us, hl with | [_, _], _ => rfl))
    (all_cons (form0 (d := d7) (by simp [ds]) D7 X G (fun _ _ _ _ _ _ us hl => match us, hl with | [_], _ => rfl))
    (all_cons (form0 (d := d8) (by simp [ds]) D8 X G (fun _ _ _ _ _ _ us hl => match us, hl with | [_], _ => rfl))
    (all_cons (form0 (d := d9) (by simp [ds]) D9 X G (fun _ _ _ _ _ _ us hl => match us, hl with | [_], _ => rfl))
    (all_cons (form0 (d := d10) (by simp [ds]) D10 X G (fun _ _ _ _ _ _ us hl => match us, hl with | [_], _ => rfl))
    (all_cons (form0 (d := d11) (by simp [ds]) D11 X G (fun _ _ _ _ _ _ us hl => match us, hl with | [_], _ => rfl))
    (all_cons (form0 (d := d12) (by simp [ds]) D12 X G (fun _ _ _ _ _ _ us hl => match us, hl with | [_], _ => rfl))
    (all_cons (form0 (d := d13) (by simp [ds]) D13 X G (fun _ _ _ _ _ _ us hl => match us, hl with | [_, _, _], _ => rfl))
    (all_cons (form0 (d := d14) (by simp [ds]) D14 X G (fun _ _ _ _ _ _ us hl => match us, hl with | [_], _ => rfl))
    (all_cons (form0 (d := d15) (by simp [ds]) D15 X G (fun _ _ _ _ _ _ us hl => match us, hl with | [_, _], _ => rfl))
    (all_cons (form0 (d := d16) (by simp [ds]) D16 X G (fun _ _ _ _ _ _ us hl => match us, hl with | [_, _, _], _ => rfl))
    (all_nil)))))))))))))))))
  kform := all_cons (kform0 (d := d2) (n := 1) (ks := ["low", "high"]) (src := [.p 0, .k 0, .k 1]) (dms := []) [.p 0, .k 0, .k 1] [] (by simp [ds]) D2 X G (by simp) (by simp) (fun _ => rfl) (by decide +kernel) rfl (fun _ _ _ _ _ _ us mv ws h1 h2 h3 => match us, mv, ws, h1, h2, h3 with | [_], [], [_, _], _, _, _ => rfl))
    (all_cons (kform0 (d := d2) (n := 1) (ks := ["high"]) (src := [.p 0, .d (.int 0), .k 0]) (dms := [.int 0]) [.p 0, .d 0, .k 0] [("low", V.int 0)] (by simp [ds]) D2 X G (by simp) (by simp) (fun _ => ⟨_, _, rfl, rfl, rfl⟩) (by decide +kernel) rfl (fun _ _ _ _ _ _ us mv ws h1 h2 h3 => match us, mv, ws, h1, h2, h3 with | [_], [_], [_], _, _, _ => ⟨_, _, _, _, _, _, rfl, rfl, rfl⟩))
    (all_cons (kform0 (d := d2) (n := 1) (ks := ["low"]) (src := [.p 0, .k 0, .d (.int 999999)]) (dms := [.int 999999]) [.p 0, .k 0, .d 0] [("high", V.int 999999)] (by simp [ds]) D2 X G (by simp) (by simp) (fun _ => ⟨_, _, rfl, rfl, rfl⟩) (by decide +kernel) rfl (fun _ _ _ _ _ _ us mv ws h1 h2 h3 => match us, mv, ws, h1, h2, h3 with | [_], [_], [_], _, _, _ => ⟨_, _, _, _, _, _, rfl, rfl, rfl⟩))
    (all_nil)))
theorem fin_mk {K : PySem.W.Frag} {P : Program} {wd : World} {mg : Str → Option Value} {h : Heap} {fa : Addr} (KX : K.In h) (G : h.Ns mainGlobals mg) (hm : mg "law" = some (.ref fa))
    (D0 : ∃ a fd, DF K "is_name" d0.st [] [] a fd) (D1 : ∃ a fd, DF K "is_integer" d1.st [] [] a fd) (D2 : ∃ a fd, DF K "parse_integer" d2.st [] [("low", V.int 0), ("high", V.int 999999)] a fd) (D3 : ∃ a fd, DF K "split_words" d3.st [] [] a fd) (D4 : ∃ a fd, DF K "_law_cell" d4.st [] [] a fd) (D5 : ∃ a fd, DF K "_law_bag" d5.st [] [] a fd) (D6 : ∃ a fd, DF K "_law_take" d6.st [] [] a fd) (D7 : ∃ a fd, DF K "_law_any_character" d7.st [] [] a fd) (D8 : ∃ a fd, DF K "_law_text" d8.st [] [] a fd) (D9 : ∃ a fd, DF K "_law_digits" d9.st [] [] a fd) (D10 : ∃ a fd, DF K "_law_words_text" d10.st [] [] a fd) (D11 : ∃ a fd, DF K "_law_odd" d11.st [] [] a fd) (D12 : ∃ a fd, DF K "_law_is_name" d12.st [] [] a fd) (D13 : ∃ a fd, DF K "_law_parsed" d13.st [] [] a fd) (D14 : ∃ a fd, DF K "_law_words" d14.st [] [] a fd) (D15 : ∃ a fd, DF K "_law_same" d15.st [] [] a fd) (D16 : ∃ a fd, DF K "_law_value_right" d16.st [] [] a fd) (D17 : ∃ a fd, DF K "law" d17.st [] [] a fd)
    (g_LONGEST_NAME : ∃ u, PySem.W.nsIn K mainGlobals "LONGEST_NAME" = some (some u) ∧ RelV (V.int 8) u) (g_LETTERS : ∃ u, PySem.W.nsIn K mainGlobals "LETTERS" = some (some u) ∧ RelV (V.str ⟨#[97, 98, 99, 100, 101, 102, 103, 104, 105, 106, 107, 108, 109, 110, 111, 112, 113, 114, 115, 116, 117, 118, 119, 120, 121, 122]⟩) u) (g_DIGITS : ∃ u, PySem.W.nsIn K mainGlobals "DIGITS" = some (some u) ∧ RelV (V.str ⟨#[48, 49, 50, 51, 52, 53, 54, 55, 56, 57]⟩) u)
    (z_abs : PySem.W.nsIn K mainGlobals "abs" = some none) (z_all : PySem.W.nsIn K mainGlobals "all" = some none) (z_any : PySem.W.nsIn K mainGlobals "any" = some none) (z_bool : PySem.W.nsIn K mainGlobals "bool" = some none) (z_dict : PySem.W.nsIn K mainGlobals "dict" = some none) (z_int : PySem.W.nsIn K mainGlobals "int" = some none) (z_isinstance : PySem.W.nsIn K mainGlobals "isinstance" = some none) (z_len : PySem.W.nsIn K mainGlobals "len" = some none) (z_list : PySem.W.nsIn K mainGlobals "list" = some none) (z_max : PySem.W.nsIn K mainGlobals "max" = some none) (z_min : PySem.W.nsIn K mainGlobals "min" = some none) (z_range : PySem.W.nsIn K mainGlobals "range" = some none) (z_str : PySem.W.nsIn K mainGlobals "str" = some none) (z_tuple : PySem.W.nsIn K mainGlobals "tuple" = some none) :
    ∃ fd : FuncData, At K d17 fa fd ∧ (∀ (s : Shared) (u : Value), BindsTo s fd ⟨[u], []⟩ [("_law_script", u)]) ∧ ∀ base : Heap, K.In base → base.Ns mainGlobals mg → Lk ⟨K, fun _ => 0, fun _ => ""⟩ tb ds P wd mg base := by
  obtain ⟨a0, fd0, D0⟩ := D0
  obtain ⟨a1, fd1, D1⟩ := D1
  obtain ⟨a2, fd2, D2⟩ := D2
  obtain ⟨a3, fd3, D3⟩ := D3
  obtain ⟨a4, fd4, D4⟩ := D4
  obtain ⟨a5, fd5, D5⟩ := D5
  obtain ⟨a6, fd6, D6⟩ := D6
  obtain ⟨a7, fd7, D7⟩ := D7
  obtain ⟨a8, fd8, D8⟩ := D8
  obtain ⟨a9, fd9, D9⟩ := D9
  obtain ⟨a10, fd10, D10⟩ := D10
  obtain ⟨a11, fd11, D11⟩ := D11
  obtain ⟨a12, fd12, D12⟩ := D12
  obtain ⟨a13, fd13, D13⟩ := D13
  obtain ⟨a14, fd14, D14⟩ := D14
  obtain ⟨a15, fd15, D15⟩ := D15
  obtain ⟨a16, fd16, D16⟩ := D16
  obtain ⟨a17, fd17, D17⟩ := D17
  obtain ⟨u_LONGEST_NAME, g_LONGEST_NAME, r_LONGEST_NAME⟩ := g_LONGEST_NAME
  obtain ⟨u_LETTERS, g_LETTERS, r_LETTERS⟩ := g_LETTERS
  obtain ⟨u_DIGITS, g_DIGITS, r_DIGITS⟩ := g_DIGITS
  have e := hm.symm.trans (PySem.W.mg_of KX G D17.g)
  cases e
  refine ⟨fd17, DF.at (w := ⟨K, fun _ => 0, fun _ => ""⟩) D17, fun s u => D17.F.bindsA (ps := ["_law_script"]) (fun _ _ _ _ _ _ us hl => match us, hl with | [_], _ => rfl) s [u] rfl, fun base X2 G2 => ?_⟩
  exact lk_mk (w := ⟨K, fun _ => 0, fun _ => ""⟩) X2 G2 D0 D1 D2 D3 D4 D5 D6 D7 D8 D9 D10 D11 D12 D13 D14 D15 D16 D17 g_LONGEST_NAME r_LONGEST_NAME g_LETTERS r_LETTERS g_DIGITS r_DIGITS z_abs z_all z_any z_bool z_dict z_int z_isinstance z_len z_list z_max z_min z_range z_str z_tuple
end MP

set_option Elab.async false
set_option linter.all false
set_option maxRecDepth 100000
set_option maxHeartbeats 4000000
namespace MP
open PySem PySem.Spec PyProof.Rows L2
theorem log_lt {i : Int} (h1 : -(2 ^ 64) < i) (h2 : i < 2 ^ 64) : i.natAbs.log2 < 64 + 1 := by
  by_cases e : i.natAbs = 0
  · rw [e]; simp
  · have h : i.natAbs < 2 ^ 64 := by omega
    exact Nat.lt_succ_of_lt ((Nat.log2_lt e).mpr h)
theorem mulw {i j : Int} (h1 : -(2 ^ 64) < i) (h2 : i < 2 ^ 64) (h3 : -(2 ^ 64) < j) (h4 : j < 2 ^ 64) : CMulW i j := by
  have a := log_lt h1 h2
  have b := log_lt h3 h4
  unfold CMulW
  omega
theorem powc {i : Int} {j : Int} (h1 : -(2 ^ 64) < i) (h2 : i < 2 ^ 64) (h3 : 0 ≤ j) (h4 : j ≤ 1000000) : CPow i j := ⟨h3, h4, by omega⟩
def Bag (G : MH) (b : Addr) (k : Nat) : Prop := ∃ x y z : Int, G b = some (.lst [.int x, .int y, .int z]) ∧ 0 ≤ x ∧ 0 ≤ y ∧ y < 2147483629 ∧ 0 ≤ z ∧ z ≤ k
def TakeS (C : Sem0) : Prop := ∀ (b : Addr) (c : Int) (k : Nat) (G : MH) (Q : MQ) (E : MX → MH → Prop), Bag G b k → k ≤ 100000 → 0 < c → c ≤ 1000000 → (∀ (d : Int) G', 0 ≤ d → d < c → Bag G' b (k + 1) → Q (.int d) G') → C 6 [.ref b, .int c] G Q E
theorem take_ok (C : Sem0) (b : Addr) (c : Int) (k : Nat) (G : MH) (Q : MQ) (E : MX → MH → Prop) (hb : Bag G b k) (hk : k ≤ 100000) (hc : 0 < c) (hc2 : c ≤ 1000000) (h : ∀ (d : Int) G', 0 ≤ d → d < c → Bag G' b (k + 1) → Q (.int d) G') : evF C f6 [.ref b, .int c] G Q E := by
  obtain ⟨x, y, z, e, hx, hy, hy2, hz, hz2⟩ := hb
  have lg : c.natAbs.log2 < 9000 := by
    have h1 : c.natAbs < 2 ^ 64 := by omega
    have h2 : c.natAbs.log2 < 64 := (Nat.log2_lt (by omega)).mpr h1
    omega
  refine ⟨_, e, _, rfl, Br.mk (fun h1 => ?_) (fun h1 => ?_)⟩
  · refine ⟨_, e, _, rfl, hc, ?_⟩
    refine ⟨_, e, _, rfl, ⟨hc, lg⟩, ?_⟩
    refine ⟨_, _, e, rfl, ?_⟩
    refine ⟨_, fun _ _ z => z, h _ _ (Int.emod_nonneg _ (by omega)) (Int.emod_lt_of_pos _ hc) ?_⟩
    exact ⟨_, _, _, mup_same, Int.ediv_nonneg hx (by omega), hy, hy2, hz, by omega⟩
  · refine ⟨_, e, _, rfl, ?_⟩
    refine ⟨_, _, e, rfl, ?_⟩
    refine ⟨_, mup_same, _, rfl, ?_⟩
    refine ⟨_, mup_same, _, rfl, ?_⟩
    refine ⟨mulw (by omega) (by omega) (by omega) (by omega), ?_⟩
    refine ⟨powc (by omega) (by omega) (by omega) (by omega), ?_⟩
    refine ⟨by omega, ?_⟩
    generalize hm : (y + 7919 * (z + 1) + 101) ^ (Int.toNat 5) % 2147483647 = m
    have m1 : 0 ≤ m := by rw [← hm]; exact Int.emod_nonneg _ (by omega)
    have m2 : m < 2147483647 := by rw [← hm]; exact Int.emod_lt_of_pos _ (by omega)
    refine ⟨_, mup_same, _, rfl, ?_⟩
    refine ⟨mulw (by omega) (by omega) (by omega) (by omega), ?_⟩
    refine ⟨powc (by omega) (by omega) (by omega) (by omega), ?_⟩
    refine ⟨by omega, ?_⟩
    refine ⟨⟨by omega, by decide⟩, ?_⟩
    refine ⟨hc, ?_⟩
    refine ⟨_, fun _ _ z => z, h _ _ (Int.emod_nonneg _ (by omega)) (Int.emod_lt_of_pos _ hc) ?_⟩
    exact ⟨_, _, _, mup_same, hx, hy, hy2, by omega, by omega⟩
end MP

set_option Elab.async false
set_option linter.all false
set_option maxRecDepth 100000
set_option maxHeartbeats 4000000
namespace MP
open PySem PySem.Spec PyProof.Rows L2
/-! ## general -/
theorem lc_ind {g : MG} {t : MSt → MH → (Bool → MH → Prop) → Prop} {e : MSt → MH → MQ → Prop} {σ : MSt} {inv : MH → Prop} {k : List MV → MH → Prop} (J : List MV → List MV → MH → Prop)
    (step : ∀ x xs acc G (K : List MV → MH → Prop), J (x :: xs) acc G → (∀ acc' G', J xs acc' G' → K acc' G') → inv G ∧ asgM g x σ G fun σ1 G1 => t σ1 G1 fun b G2 => Br b (e σ1 G2 fun v G3 => K (acc ++ [v]) G3) (K acc G2))
    (done : ∀ acc G, J [] acc G → inv G ∧ k acc G) : ∀ xs acc G, J xs acc G → lcM g t e σ inv xs acc G k
  | [], acc, G, h => done acc G h
  | x :: xs, acc, G, h => step x xs acc G (fun acc' G' => lcM g t e σ inv xs acc' G' k) h fun acc' G' h' => lc_ind J step done xs acc' G' h'
theorem lc_fm {g : MG} {t : MSt → MH → (Bool → MH → Prop) → Prop} {e : MSt → MH → MQ → Prop} {σ : MSt} {inv : MH → Prop} {k : List MV → MH → Prop} {G : MH} (f : MV → Option MV) (hi : inv G) :
    ∀ (xs acc : List MV), (∀ x ∈ xs, ∀ (K1 : MV → MH → Prop) (K2 : MH → Prop), (∀ v, f x = some v → K1 v G) → (f x = none → K2 G) → asgM g x σ G fun σ1 G1 => t σ1 G1 fun b G2 => Br b (e σ1 G2 K1) (K2 G2)) →
    k (acc ++ xs.filterMap f) G → lcM g t e σ inv xs acc G k
  | [], acc, _, h => ⟨hi, by simpa using h⟩
  | x :: xs, acc, step, h => ⟨hi, step x (by simp) _ _ (fun v e1 => lc_fm f hi xs _ (fun y hy => step y (by simp [hy])) (by simpa [List.filterMap_cons, e1] using h)) fun e1 => lc_fm f hi xs _ (fun y hy => step y (by simp [hy])) (by simpa [List.filterMap_cons, e1] using h)⟩
theorem for_ind {g : MG} {b : MS0} {inv : MH → Prop} {D : MD} (J : List MV → MSt → MH → Prop)
    (step : ∀ x xs σ G (K : MSt → MH → Prop), J (x :: xs) σ G → (∀ σ' G', J xs σ' G' → K σ' G') → inv G ∧ asgM g x σ G fun σ1 G1 => b { D with nx := K, ct := K, bk := D.nx } σ1 G1)
    (done : ∀ σ G, J [] σ G → inv G ∧ D.nx σ G) : ∀ xs σ G, J xs σ G → forM g b inv D xs σ G
  | [], σ, G, h => done σ G h
  | x :: xs, σ, G, h => step x xs σ G (forM g b inv D xs) h fun σ' G' h' => for_ind J step done xs σ' G' h'
theorem cut_len {α : Type} (xs : List α) (lo hi : Option Int) : (cut xs lo hi).length ≤ xs.length := by
  unfold cut
  rw [List.length_take, List.length_drop]
  omega
theorem joinT_le {s : Tx} {m : Nat} : ∀ ts : List Tx, (∀ t ∈ ts, t.length ≤ m) → (joinT s ts).length ≤ (m + s.length) * ts.length
  | [], _ => by simp [joinT]
  | [x], h => by
    have := h x (by simp)
    show x.length ≤ _
    simp
    omega
  | x :: y :: r, h => by
    have h1 := h x (by simp)
    have h2 := joinT_le (s := s) (y :: r) fun t ht => h t (by simp [ht])
    show (x ++ (s ++ joinT s (y :: r))).length ≤ _
    rw [List.length_append, List.length_append, List.length_cons, Nat.mul_succ]
    omega
theorem strsOf_map : ∀ ts : List Tx, strsOf (ts.map .str) = some ts
  | [] => rfl
  | t :: r => by
    show (strsOf (r.map .str)).map (t :: ·) = _
    rw [strsOf_map r]
    rfl
theorem atI_get {α : Type} {xs : List α} {d : Int} (h1 : 0 ≤ d) (h2 : d < xs.length) : ∃ v, atI xs d = some v ∧ v ∈ xs := by
  have h3 : d.toNat < xs.length := by omega
  refine ⟨xs[d.toNat], ?_, List.getElem_mem h3⟩
  unfold atI ixN
  rw [if_pos h1, if_pos h2]
  exact List.getElem?_eq_getElem h3
/-! ## the strings drawn -/
def AnyS (C : Sem0) : Prop := ∀ (b : Addr) (k : Nat) (G : MH) (Q : MQ) (E : MX → MH → Prop), Bag G b k → k ≤ 100000 → (∀ c G', Bag G' b (k + 1) → Q (.str [c]) G') → C 7 [.ref b] G Q E
def StrS (C : Sem0) (f m : Nat) (L : Nat) : Prop := ∀ (b : Addr) (k : Nat) (G : MH) (Q : MQ) (E : MX → MH → Prop), Bag G b k → k ≤ 50000 → (∀ x G', x.length ≤ L → Bag G' b (k + m) → Q (.str x) G') → C f [.ref b] G Q E
theorem Bag.up {G : MH} {b : Addr} {k k' : Nat} (h : Bag G b k) (l : k ≤ k') : Bag G b k' := by
  obtain ⟨x, y, z, e, h1, h2, h3, h4, h5⟩ := h
  exact ⟨x, y, z, e, h1, h2, h3, h4, by omega⟩
theorem any_ok {C : Sem0} (hC : TakeS C) (b : Addr) (k : Nat) (G : MH) (Q : MQ) (E : MX → MH → Prop) (hb : Bag G b k) (hk : k ≤ 100000) (h : ∀ c G', Bag G' b (k + 1) → Q (.str [c]) G') : evF C f7 [.ref b] G Q E := by
  refine hC _ _ _ _ _ _ hb hk (by decide) (by decide) fun d G' h1 h2 hb' => ?_
  obtain ⟨c, q1, _⟩ := atI_get (xs := [32, 33, 34, 35, 36, 38, 39, 40, 41, 42, 43, 44, 45, 46, 47, 48, 49, 50, 51, 52, 53, 54, 55, 56, 57, 58, 59, 60, 61, 62, 63, 64, 65, 66, 67, 68, 69, 70, 71, 72, 73, 74, 75, 76, 77, 78, 79, 80, 81, 82, 83, 84, 85, 86, 87, 88, 89, 90, 91, 92, 93, 94, 95, 96, 97, 98, 99, 100, 101, 102, 103, 104, 105, 106, 107, 108, 109, 110, 111, 112, 113, 114, 115, 116, 117, 118, 119, 120, 121, 122, 123, 124, 125, 126, 10]) h1 h2
  exact ⟨c, q1, _, fun _ _ z => z, h c G' hb'⟩
theorem text_ok {C : Sem0} (hC : TakeS C) (hA : AnyS C) (b : Addr) (k : Nat) (G : MH) (Q : MQ) (E : MX → MH → Prop) (hb : Bag G b k) (hk : k ≤ 60000) (h : ∀ x G', x.length ≤ 21 → Bag G' b (k + 20) → Q (.str x) G') : evF C f8 [.ref b] G Q E := by
  refine hC _ _ _ _ _ _ hb (by omega) (by decide) (by decide) fun d G1 h1 h2 hb1 => ?_
  refine ⟨by omega, by omega, ?_⟩
  refine lc_ind (fun xs acc G => ∃ ts : List Tx, acc = ts.map .str ∧ (∀ t ∈ ts, t.length ≤ 1) ∧ ts.length + xs.length ≤ 10 ∧ Bag G b (k + 1 + ts.length)) ?_ ?_ _ _ _ ⟨[], rfl, by simp, by simp; omega, hb1⟩
  · rintro x xs acc G2 K ⟨ts, rfl, e1, e2, e3⟩ hK
    rw [List.length_cons] at e2
    refine ⟨True.intro, ?_⟩
    refine hC _ _ _ _ _ _ e3 (by omega) (by decide) (by decide) fun d G3 g1 g2 hb3 => ?_
    obtain ⟨c, q1, _⟩ := atI_get (xs := [97, 98, 99, 100, 101, 102, 103, 104, 105, 106, 107, 108, 109, 110, 111, 112, 113, 114, 115, 116, 117, 118, 119, 120, 121, 122]) g1 g2
    refine ⟨c, q1, hK _ _ ⟨ts ++ [[c]], by simp, ?_, by simp; omega, by simpa [Nat.add_assoc] using hb3⟩⟩
    intro t ht
    rcases List.mem_append.mp ht with z | z
    · exact e1 t z
    · rw [List.mem_singleton.mp z]
      exact Nat.le_refl _
  · rintro acc G2 ⟨ts, rfl, e1, e2, e3⟩
    rw [List.length_nil] at e2
    have hl := joinT_le (s := []) ts e1
    rw [List.length_nil] at hl
    refine ⟨True.intro, .inl ?_⟩
    refine ⟨ts, strsOf_map ts, by rw [sizeLine_eq, List.length_nil]; omega, ?_⟩
    generalize joinT [] ts = w at hl ⊢
    refine hC _ _ _ _ _ _ e3 (by omega) (by decide) (by decide) fun d G3 g1 g2 hb3 => ?_
    refine ⟨rfl, rfl, Br.mk (fun z => ?_) fun z => ?_⟩
    · refine hC _ _ _ _ _ _ hb3 (by omega) (by omega) (by omega) fun at' G4 g3 g4 hb4 => ?_
      refine hC _ _ _ _ _ _ hb4 (by omega) (by decide) (by decide) fun o G5 g5 g6 hb5 => ?_
      refine hA _ _ _ _ _ hb5 (by omega) fun c G6 hb6 => ?_
      have c1 := cut_len w none (some at')
      have c2 := cut_len w (some (at' + o)) none
      refine ⟨by rw [sizeLine_eq, List.length_singleton]; omega, ?_⟩
      refine ⟨by rw [sizeLine_eq, List.length_append, List.length_singleton]; omega, ?_⟩
      refine ⟨_, fun _ _ z => z, h _ _ ?_ (hb6.up (by omega))⟩
      rw [List.length_append, List.length_append, List.length_singleton]
      omega
    · exact ⟨_, fun _ _ z => z, h _ _ (by omega) (hb3.up (by omega))⟩
end MP

set_option Elab.async false
set_option linter.all false
set_option maxRecDepth 100000
set_option maxHeartbeats 4000000
namespace MP
open PySem PySem.Spec PyProof.Rows L2
theorem strip_len (x : Tx) (c : Nat) : (Txt.stripChars ⟨x.toArray⟩ ⟨#[c]⟩).cps.toList.length ≤ x.length := by
  have q := PyProof.Rows.len_stripChars ⟨x.toArray⟩ ⟨#[c]⟩
  simpa [Str.length] using q
theorem rep_flat (c n : Nat) : (List.replicate n [c]).flatten.length = n := by
  induction n with
  | zero => rfl
  | succ n ih => rw [List.replicate_succ, List.flatten_cons, List.length_append, ih, List.length_singleton, Nat.add_comm]
/-- what a value drawn may be -/
def okV : MV → Bool
  | .str x => decide (x.length ≤ 400)
  | .non => true
  | .bl _ => true
  | .int _ => true
  | .tup _ => true
  | .lst _ => true
  | .dct _ _ => true
  | _ => false
def isS (n : Nat) : MV → Bool
  | .str x => decide (x.length ≤ n)
  | _ => false
theorem isS_str {n : Nat} {v : MV} (h : isS n v = true) : ∃ x, v = .str x ∧ x.length ≤ n := by
  cases v <;> simp [isS] at h
  exact ⟨_, rfl, h⟩
theorem pick {xs : List MV} {p : MV → Bool} {d : Int} (h1 : 0 ≤ d) (h2 : d < xs.length) (h : xs.all p = true) : ∃ v, atI xs d = some v ∧ p v = true := by
  obtain ⟨v, q1, q2⟩ := atI_get h1 h2
  exact ⟨v, q1, List.all_eq_true.mp h v q2⟩
theorem digits_ok {C : Sem0} (hC : TakeS C) (hA : AnyS C) (b : Addr) (k : Nat) (G : MH) (Q : MQ) (E : MX → MH → Prop) (hb : Bag G b k) (hk : k ≤ 60000) (h : ∀ x G', x.length ≤ 70 → Bag G' b (k + 40) → Q (.str x) G') : evF C f9 [.ref b] G Q E := by
  refine .inl (hC _ _ _ _ _ _ hb (by omega) (by decide) (by decide) fun d G1 h1 h2 hb1 => ?_)
  obtain ⟨n, q1, q2⟩ := pick (xs := [.int 1, .int 2, .int 3, .int 6, .int 7, .int 30]) (p := fun v => match v with
    | .int i => decide (0 ≤ i) && decide (i ≤ 30)
    | _ => false) h1 h2 rfl
  refine ⟨n, q1, ?_⟩
  cases n <;> simp at q2
  rename_i n
  refine ⟨by omega, by omega, ?_⟩
  refine lc_ind (fun xs acc G => ∃ ts : List Tx, acc = ts.map .str ∧ (∀ t ∈ ts, t.length ≤ 1) ∧ ts.length + xs.length ≤ 30 ∧ Bag G b (k + 1 + ts.length)) ?_ ?_ _ _ _ ⟨[], rfl, by simp, by simp; omega, hb1⟩
  · rintro x xs acc G2 K ⟨ts, rfl, e1, e2, e3⟩ hK
    rw [List.length_cons] at e2
    refine ⟨True.intro, ?_⟩
    refine hC _ _ _ _ _ _ e3 (by omega) (by decide) (by decide) fun d G3 g1 g2 hb3 => ?_
    obtain ⟨c, q1, _⟩ := atI_get (xs := [48, 49, 50, 51, 52, 53, 54, 55, 56, 57]) g1 g2
    refine ⟨c, q1, hK _ _ ⟨ts ++ [[c]], by simp, ?_, by simp; omega, by simpa [Nat.add_assoc] using hb3⟩⟩
    intro t ht
    rcases List.mem_append.mp ht with z | z
    · exact e1 t z
    · rw [List.mem_singleton.mp z]
      exact Nat.le_refl _
  · rintro acc G2 ⟨ts, rfl, e1, e2, e3⟩
    rw [List.length_nil] at e2
    have hl := joinT_le (s := []) ts e1
    rw [List.length_nil] at hl
    refine ⟨True.intro, .inl ?_⟩
    refine ⟨ts, strsOf_map ts, by rw [sizeLine_eq, List.length_nil]; omega, ?_⟩
    generalize joinT [] ts = w at hl ⊢
    have hw : w.length ≤ 30 := by omega
    refine hC _ _ _ _ _ _ e3 (by omega) (by decide) (by decide) fun way G3 g1 g2 hb3 => ?_
    refine ⟨rfl, rfl, Br.mk (fun z => ?_) fun z => ?_⟩
    · refine hC _ _ _ _ _ _ hb3 (by omega) (by decide) (by decide) fun o G4 g3 g4 hb4 => ?_
      have h5 : (1 + o).toNat ≤ 3 := by omega
      refine ⟨by omega, by omega, ?_, ?_⟩
      · rw [sizeLine_eq, List.length_singleton]; omega
      refine ⟨by rw [sizeLine_eq, rep_flat]; omega, ?_⟩
      refine ⟨_, fun _ _ z => z, h _ _ ?_ (hb4.up (by omega))⟩
      rw [List.length_append, rep_flat]
      omega
    · refine ⟨rfl, rfl, Br.mk (fun z => ?_) fun z1 => ?_⟩
      · refine hC _ _ _ _ _ _ hb3 (by omega) (by omega) (by omega) fun at' G4 g3 g4 hb4 => ?_
        refine hA _ _ _ _ _ hb4 (by omega) fun c G6 hb6 => ?_
        have c1 := cut_len w none (some at')
        have c2 := cut_len w (some at') none
        refine ⟨by rw [sizeLine_eq, List.length_singleton]; omega, ?_⟩
        refine ⟨by rw [sizeLine_eq, List.length_append, List.length_singleton]; omega, ?_⟩
        refine ⟨_, fun _ _ z => z, h _ _ ?_ (hb6.up (by omega))⟩
        rw [List.length_append, List.length_append, List.length_singleton]
        omega
      · refine .inl ?_
        have e0 : (eqM (.int way) (.int 0)) = false := z
        have e1' : (eqM (.int way) (.int 1)) = false := z1
        simp [eqM] at e0 e1'
        obtain ⟨v, p1, p2⟩ := pick (xs := [.str [57, 57, 57, 57, 57, 57], .str [49, 48, 48, 48, 48, 48, 48], .str [48], .str (Txt.stripChars ⟨w.toArray⟩ ⟨#[48]⟩).cps.toList, .str w]) (p := isS 70) (d := way - 2) (by omega) (by simp; omega) (by
          have := strip_len w 48
          rw [Array.length_toList] at this
          simp [isS]
          omega)
        obtain ⟨x, rfl, p3⟩ := isS_str p2
        exact ⟨_, p1, _, fun _ _ z => z, h _ _ p3 (hb3.up (by omega))⟩
theorem words_ok {C : Sem0} (hC : TakeS C) (hT : StrS C 8 20 21) (b : Addr) (k : Nat) (G : MH) (Q : MQ) (E : MX → MH → Prop) (hb : Bag G b k) (hk : k ≤ 40000) (h : ∀ x G', x.length ≤ 200 → Bag G' b (k + 90) → Q (.str x) G') : evF C f10 [.ref b] G Q E := by
  refine hC _ _ _ _ _ _ hb (by omega) (by decide) (by decide) fun d G1 h1 h2 hb1 => ?_
  refine ⟨by omega, by omega, ?_⟩
  refine lc_ind (fun xs acc G => ∃ ts : List Tx, acc = ts.map .str ∧ (∀ t ∈ ts, t.length ≤ 21) ∧ ts.length + xs.length ≤ 4 ∧ Bag G b (k + 1 + 20 * ts.length)) ?_ ?_ _ _ _ ⟨[], rfl, by simp, by simp; omega, hb1⟩
  · rintro x xs acc G2 K ⟨ts, rfl, e1, e2, e3⟩ hK
    rw [List.length_cons] at e2
    refine ⟨True.intro, ?_⟩
    refine hT _ _ _ _ _ e3 (by omega) fun y G3 g1 hb3 => ?_
    refine hK _ _ ⟨ts ++ [y], by simp, ?_, by simp; omega, hb3.up (by rw [List.length_append, List.length_singleton]; omega)⟩
    intro t ht
    rcases List.mem_append.mp ht with z | z
    · exact e1 t z
    · rw [List.mem_singleton.mp z]
      exact g1
  · rintro acc G2 ⟨ts, rfl, e1, e2, e3⟩
    rw [List.length_nil] at e2
    have hl := joinT_le (s := [32]) ts e1
    rw [List.length_singleton] at hl
    refine ⟨True.intro, .inl ?_⟩
    refine ⟨ts, strsOf_map ts, by rw [sizeLine_eq, List.length_singleton]; omega, ?_⟩
    generalize joinT [32] ts = w at hl ⊢
    have hw : w.length ≤ 88 := by omega
    refine ⟨by rw [sizeLine_eq, List.length_singleton]; omega, by rw [sizeLine_eq, List.length_singleton]; omega, by rw [sizeLine_eq, List.length_singleton]; omega, by rw [sizeLine_eq, List.length_append, List.length_singleton]; omega, .inl ?_⟩
    refine hC _ _ _ _ _ _ e3 (by omega) (by decide) (by decide) fun way G3 g1 g2 hb3 => ?_
    obtain ⟨v, p1, p2⟩ := pick (xs := [.str w, .str w, .str w, .str ([32] ++ w), .str (w ++ [32]), .str (w ++ [10] ++ w), .str (Txt.stripChars ⟨w.toArray⟩ ⟨#[32]⟩).cps.toList]) (p := isS 200) (d := way) (by omega) (by simp; omega) (by
      have := strip_len w 32
      rw [Array.length_toList] at this
      simp [isS]
      omega)
    obtain ⟨x, rfl, p3⟩ := isS_str p2
    exact ⟨_, p1, _, fun _ _ z => z, h _ _ p3 (hb3.up (by omega))⟩
theorem odd_ok {C : Sem0} (hC : TakeS C) (b : Addr) (k : Nat) (G : MH) (Q : MQ) (E : MX → MH → Prop) (hb : Bag G b k) (hk : k ≤ 60000) (h : ∀ v G', okV v = true → Bag G' b (k + 1) → Q v G') : evF C f11 [.ref b] G Q E := by
  refine ⟨powc (by decide) (by decide) (by decide) (by decide), powc (by decide) (by decide) (by decide) (by decide), .inl (.inl (.inl ?_))⟩
  refine .inl (.inl ⟨by rw [sizeLine_eq]; decide, .inl ?_⟩)
  refine hC _ _ _ _ _ _ hb (by omega) (by decide) (by decide) fun d G3 g1 g2 hb3 => ?_
  obtain ⟨v, p1, p2⟩ := pick (xs := [.non, .bl true, .bl false, .int 0, .int (-1), .int (10 ^ (Int.toNat 29)), .int (0 - 10 ^ (Int.toNat 29)), .tup [], .lst [], .dct [] [], .tup [.str [97]], .lst [.str [97]], .dct [.inr [97]] [.int 1], .tup [.str [97], .str [98]], .lst [.int 0], .tup [.int 1]]) (p := okV) (d := d) g1 g2 rfl
  exact ⟨_, p1, _, fun _ _ z => z, h _ _ p2 hb3⟩
theorem cell_ok (C : Sem0) (ns : List Int) (i : Nat) (G : MH) (Q : MQ) (E : MX → MH → Prop) (h2 : i < 64) (h : ∀ n : Int, Q (.int n) G) : evF C f4 [.klst (ns.map .int), .int i] G Q E := by
  refine Br.mk (fun z => ?_) fun z => ?_
  · have z : decide ((i : Int) < ((ns.map MV.int).length : Int)) = true := z
    obtain ⟨v, p1, p2⟩ := pick (xs := ns.map .int) (p := fun v => match v with
      | .int _ => true
      | _ => false) (d := i) (by omega) (of_decide_eq_true z) (by simp)
    cases v <;> simp at p2
    exact ⟨_, p1, _, fun _ _ z => z, h _⟩
  · exact ⟨mulw (by decide) (by decide) (by omega) (by omega), _, fun _ _ z => z, h _⟩
theorem bag_ok (C : Sem0) (n : Int) (G : MH) (Q : MQ) (E : MX → MH → Prop) (h : ∀ b G', Bag G' b 0 → Q (.ref b) G') : evF C f5 [.int n] G Q E := by
  refine ⟨powc (by decide) (by decide) (by decide) (by decide), by decide, .inr fun p hp => ?_⟩
  refine ⟨_, fun _ _ z => z, h p _ ⟨_, _, _, mup_same, ?_, Int.emod_nonneg _ (by decide), Int.emod_lt_of_pos _ (by decide), Int.le_refl 0, Int.le_refl 0⟩⟩
  split <;> omega
end MP

set_option Elab.async false
set_option linter.all false
set_option maxRecDepth 100000
set_option maxHeartbeats 4000000
namespace MP
open PySem PySem.Spec PyProof.Rows L2
abbrev LET : Tx := [97, 98, 99, 100, 101, 102, 103, 104, 105, 106, 107, 108, 109, 110, 111, 112, 113, 114, 115, 116, 117, 118, 119, 120, 121, 122]
abbrev DIG : Tx := [48, 49, 50, 51, 52, 53, 54, 55, 56, 57]
def nameB : MV → Bool
  | .str x => decide (1 ≤ x.length) && decide (x.length ≤ 8) && x.all fun c => decide (c ∈ LET)
  | _ => false
def intB (lo hi : Int) : MV → Bool
  | .int i => decide (lo ≤ i) && decide (i ≤ hi)
  | _ => false
def mapF (f : Nat → Bool) : MV → Option MV
  | .str [c] => some (.bl (f c))
  | _ => none
def selF (f : Nat → Bool) : MV → Option MV
  | .str [c] => if f c then some (.str [c]) else none
  | _ => none
theorem sel_t {f : Nat → Bool} {c : Nat} (h : f c = true) : selF f (.str [c]) = some (.str [c]) := by simp [selF, h]
theorem sel_f {f : Nat → Bool} {c : Nat} (h : f c = false) : selF f (.str [c]) = none := by simp [selF, h]
theorem bls_map (f : Nat → Bool) : ∀ x : Tx, blsOf ((x.map fun c => MV.str [c]).filterMap (mapF f)) = some (x.map f)
  | [] => rfl
  | c :: r => by
    have e := bls_map f r
    show Option.map _ (blsOf _) = _
    rw [e]
    rfl
/-- the signs of a text that pass -/
theorem fil_map (f : Nat → Bool) : ∀ x : Tx, ((x.map fun c => MV.str [c]).filterMap (selF f)) = (x.filter f).map fun c => MV.str [c]
  | [] => rfl
  | c :: r => by
    have e := fil_map f r
    rw [List.map_cons, List.filterMap_cons, e]
    cases h : f c
    · simp [selF, h]
    · simp [selF, h]
theorem all_id (f : Nat → Bool) (x : Tx) : (x.map f).all id = x.all f := by
  rw [List.all_map]
  rfl
theorem any_id (f : Nat → Bool) (x : Tx) : (x.map f).any id = x.any f := by
  rw [List.any_map]
  rfl
theorem eqL_nil {x : Tx} (f : Nat → Bool) : eqM (.lst ((x.filter f).map fun c => MV.str [c])) (.lst []) = x.all fun c => !f c := by
  induction x with
  | nil => rfl
  | cons c r ih =>
    cases h : f c
    · rw [List.filter_cons_of_neg (by simp [h]), ih, List.all_cons, h]
      rfl
    · rw [List.filter_cons_of_pos h, List.all_cons, h]
      rfl
theorem plain_strs (n : Nat) : ∀ ts : List Tx, plainL n (ts.map .str) = true
  | [] => by cases n <;> rfl
  | t :: r => by
    rw [List.map_cons]
    unfold plainL
    rw [plain_strs n r]
    cases n <;> rfl
theorem plain_lst (ts : List Tx) : plain 60 (.lst (ts.map .str)) = true := plain_strs 59 ts
theorem plain_sg (x : Tx) (f : Nat → Bool) : plain 60 (.lst ((x.filter f).map fun c => MV.str [c])) = true := by
  have e : ((x.filter f).map fun c => MV.str [c]) = ((x.filter f).map fun c => [c]).map .str := by rw [List.map_map]; rfl
  rw [e]
  exact plain_lst _
section
variable (C : Sem0) (G : MH) (Q : MQ) (E : MX → MH → Prop)
theorem isname_ok (v : MV) (hv : okV v = true) (h : Q (.bl (nameB v)) G) : evF C f0 [v] G Q E := by
  cases v
  case str x =>
    refine Br.mk (fun h1 => Br.mk (fun h2 => ?_) fun h2 => ?_) fun h1 => ?_
    · have g1 := of_decide_eq_true h1
      have g2 : x.length > 8 := by
        have := h2
        simp at this
        omega
      refine ⟨_, fun _ _ z => z, ?_⟩
      dsimp only [nameB] at h
      rw [decide_eq_false (p := x.length ≤ 8) (by omega), Bool.and_false, Bool.false_and] at h
      exact h
    · have g1 := of_decide_eq_true h1
      have g2 : x.length ≤ 8 := by
        have := h2
        simp at this
        omega
      refine lc_fm (mapF fun c => decide (c ∈ LET)) True.intro _ _ (fun y hy K1 K2 k1 k2 => ?_) ?_
      · obtain ⟨c, _, rfl⟩ := List.mem_map.mp hy
        exact k1 _ rfl
      · refine .inl ⟨_, bls_map _ x, _, fun _ _ z => z, ?_⟩
        dsimp only [nameB] at h
        rw [decide_eq_true (p := x.length ≤ 8) (by omega), decide_eq_true (p := 1 ≤ x.length) (by omega), Bool.true_and, Bool.true_and] at h
        rw [all_id]
        exact h
    · have g1 := of_decide_eq_false h1
      refine ⟨_, fun _ _ z => z, ?_⟩
      dsimp only [nameB] at h
      rw [decide_eq_false (p := 1 ≤ x.length) (by omega), Bool.false_and, Bool.false_and] at h
      exact h
  all_goals first
    | exact ⟨_, fun _ _ z => z, h⟩
    | exact absurd hv (by simp [okV])
theorem lawname_ok (v : MV) (hv : okV v = true) (h : Q (.bl (nameB v)) G) : evF C f12 [v] G Q E := by
  cases v
  case str x =>
    refine Br.mk (fun h1 => ?_) fun h1 => ?_
    · have g1 : (x.length : Int) < 1 := of_decide_eq_true h1
      refine ⟨_, fun _ _ z => z, ?_⟩
      dsimp only [nameB] at h
      rw [decide_eq_false (p := 1 ≤ x.length) (by omega), Bool.false_and, Bool.false_and] at h
      exact h
    · have g1 : ¬ (x.length : Int) < 1 := of_decide_eq_false h1
      refine Br.mk (fun h2 => ?_) fun h2 => ?_
      · have g2 : (8 : Int) < x.length := of_decide_eq_true h2
        refine ⟨_, fun _ _ z => z, ?_⟩
        dsimp only [nameB] at h
        rw [decide_eq_false (p := x.length ≤ 8) (by omega), Bool.and_false, Bool.false_and] at h
        exact h
      · have g2 : ¬ (8 : Int) < x.length := of_decide_eq_false h2
        refine lc_fm (selF fun c => !decide (c ∈ LET)) True.intro _ _ (fun y hy K1 K2 k1 k2 => ?_) ?_
        · obtain ⟨c, _, rfl⟩ := List.mem_map.mp hy
          exact Br.mk (fun z => k1 _ (sel_t z)) fun z => k2 (sel_f z)
        · rw [List.nil_append, fil_map]
          refine .inl (.inl ⟨plain_sg x _, rfl, _, fun _ _ z => z, ?_⟩)
          dsimp only [nameB] at h
          rw [decide_eq_true (p := x.length ≤ 8) (by omega), decide_eq_true (p := 1 ≤ x.length) (by omega), Bool.true_and, Bool.true_and] at h
          rw [eqL_nil]
          simpa using h
  all_goals first
    | exact ⟨_, fun _ _ z => z, h⟩
    | exact absurd hv (by simp [okV])
theorem isint_ok (v : MV) (lo hi : Int) (hv : okV v = true) (h : Q (.bl (intB lo hi v)) G) : evF C f1 [v, .int lo, .int hi] G Q E := by
  cases v
  case int i =>
    refine Br.mk (fun h1 => ?_) fun h1 => ?_
    · refine ⟨_, fun _ _ z => z, ?_⟩
      dsimp only [intB] at h
      rw [h1, Bool.true_and] at h
      exact h
    · refine ⟨_, fun _ _ z => z, ?_⟩
      dsimp only [intB] at h
      rw [h1, Bool.false_and] at h
      exact h
  all_goals first
    | exact ⟨_, fun _ _ z => z, h⟩
    | exact absurd hv (by simp [okV])
/-- what is drawn from an answer -/
def flatM : MV → Bool
  | .non => true
  | .bl _ => true
  | .int _ => true
  | _ => false
theorem same_ok (v : MV) (hv : flatM v = true) (h : Q (.bl true) G) : evF C f15 [v, v] G Q E := by
  cases v
  case non => exact ⟨_, fun _ _ z => z, h⟩
  case bl b => exact ⟨rfl, rfl, _, fun _ _ z => z, by simpa [eqM] using h⟩
  case int i => exact ⟨rfl, rfl, _, fun _ _ z => z, by simpa [eqM] using h⟩
  all_goals exact absurd hv (by simp [flatM])
end
end MP

set_option Elab.async false
set_option linter.all false
set_option maxRecDepth 100000
set_option maxHeartbeats 4000000
namespace MP
open PySem PySem.Spec PyProof.Rows L2
def valOf (x : Tx) : Int := (NumText.digitsVal x : Nat)
/-- the number that a text writes, within bounds -/
def parseV (lo hi : Int) : MV → MV
  | .str x => if x = [] then .non else if x.all (fun c => decide (c ∈ DIG)) = false then .non else if x[0]? = some 48 ∧ x ≠ [48] then .non else if lo ≤ valOf x ∧ valOf x ≤ hi then .int (valOf x) else .non
  | _ => .non
theorem dig_val (x : Tx) (c : Nat) : valOf (x ++ [c]) = 10 * valOf x + ((c - 48 : Nat) : Int) := by
  unfold valOf NumText.digitsVal
  rw [List.foldl_append]
  show ((_ * 10 + (c - 48) : Nat) : Int) = _
  omega
theorem dig_mem {c : Nat} (h : c ∈ DIG) : 48 ≤ c ∧ c ≤ 57 := by
  simp [DIG] at h
  omega
theorem dig_at {c : Nat} (h : c ∈ DIG) : DIG[c - 48]? = some c := by
  simp [DIG] at h
  rcases h with h | h | h | h | h | h | h | h | h | h <;> subst h <;> rfl
theorem dig_bound : ∀ (n : Nat) (x : Tx), x.length = n → (∀ c ∈ x, c ∈ DIG) → 0 ≤ valOf x ∧ valOf x < 10 ^ n
  | 0, [], _, _ => ⟨by decide, by decide⟩
  | n + 1, x, hl, h => by
    have hne : x ≠ [] := fun z => by rw [z] at hl; cases hl
    obtain ⟨r, c, rfl⟩ : ∃ r c, x = r ++ [c] := ⟨x.dropLast, x.getLast hne, (List.dropLast_concat_getLast hne).symm⟩
    rw [List.length_append, List.length_singleton] at hl
    obtain ⟨a1, a2⟩ := dig_bound n r (by omega) fun d hd => h d (by simp [hd])
    have a3 := dig_mem (h c (by simp))
    rw [dig_val]
    have : (10 : Int) ^ (n + 1) = 10 * 10 ^ n := by rw [Int.pow_succ, Int.mul_comm]
    rw [this]
    omega
theorem dig_log {x : Tx} (hl : x.length ≤ 400) (h : ∀ c ∈ x, c ∈ DIG) : (valOf x).natAbs.log2 < 2000 := by
  obtain ⟨a1, a2⟩ := dig_bound x.length x rfl h
  by_cases e : (valOf x).natAbs = 0
  · rw [e]; decide
  · rw [Nat.log2_lt e]
    have b1 : (valOf x).natAbs < 10 ^ x.length := by
      have : ((valOf x).natAbs : Int) < ((10 ^ x.length : Nat) : Int) := by
        rw [Int.natAbs_of_nonneg a1]
        push_cast
        exact a2
      exact_mod_cast this
    calc _ < 10 ^ x.length := b1
      _ ≤ 16 ^ x.length := Nat.pow_le_pow_left (by decide) _
      _ = 2 ^ (4 * x.length) := by rw [Nat.pow_mul]
      _ ≤ 2 ^ 2000 := Nat.pow_le_pow_right (by decide) (by omega)
theorem dig_all {x : Tx} (h : x.all (fun c => decide (c ∈ DIG)) = true) : ∀ c ∈ x, c ∈ DIG := fun c hc => of_decide_eq_true (List.all_eq_true.mp h c hc)
theorem int_dig {x : Tx} (hne : x ≠ []) (hl : x.length ≤ 400) (h : ∀ c ∈ x, c ∈ DIG) : intText? ⟨x.toArray⟩ = some (valOf x) := by
  refine SX.int_S (a := x) (List.all_eq_true.mpr fun c hc => ?_) hne (by omega)
  have := dig_mem (h c hc)
  simp
  omega
section
variable (C : Sem0) (G : MH) (Q : MQ) (E : MX → MH → Prop)
theorem parse_ok (v : MV) (lo hi : Int) (hv : okV v = true) (h : Q (parseV lo hi v) G) : evF C f2 [v, .int lo, .int hi] G Q E := by
  cases v
  case str x =>
    have hl : x.length ≤ 400 := by simpa [okV] using hv
    refine ⟨rfl, rfl, Br.mk (fun h1 => ?_) fun h1 => ?_⟩
    · have h1 : x = [] := of_decide_eq_true h1
      refine ⟨_, fun _ _ z => z, ?_⟩
      dsimp only [parseV] at h
      rw [if_pos h1] at h
      exact h
    · have h1 : ¬ x = [] := of_decide_eq_false h1
      refine lc_fm (mapF fun c => decide (c ∈ DIG)) True.intro _ _ (fun y hy K1 K2 k1 k2 => ?_) ?_
      · obtain ⟨c, _, rfl⟩ := List.mem_map.mp hy
        exact k1 _ rfl
      · refine .inl ⟨_, bls_map _ x, ?_⟩
        rw [all_id]
        refine Br.mk (fun h2 => ?_) fun h2 => ?_
        · have h2 : x.all (fun c => decide (c ∈ DIG)) = false := by simpa using h2
          refine ⟨_, fun _ _ z => z, ?_⟩
          dsimp only [parseV] at h
          rw [if_neg h1, if_pos h2] at h
          exact h
        · have h2 : x.all (fun c => decide (c ∈ DIG)) = true := by simpa using h2
          dsimp only [parseV] at h
          rw [if_neg h1, if_neg (by rw [h2]; decide)] at h
          have h3 := dig_all h2
          have fin : ¬ (x[0]? = some 48 ∧ x ≠ [48]) → evB C [.asg (.nm 3) (.prim .int [.var 0]), .ret (.ite (.chain .LtE .LtE (.var 1) (.var 3) (.var 2)) (.var 3) (.cst .non))] (endF Q E) [some (.str x), some (.int lo), some (.int hi), none, none] G := fun hz => by
            rw [if_neg hz] at h
            refine ⟨_, int_dig h1 hl h3, by omega, Br.mk (fun g1 => Br.mk (fun g2 => ?_) fun g2 => ?_) fun g1 => ?_⟩
            · rw [if_pos ⟨of_decide_eq_true g1, of_decide_eq_true g2⟩] at h
              exact ⟨_, fun _ _ z => z, h⟩
            · rw [if_neg fun z => of_decide_eq_false g2 z.2] at h
              exact ⟨_, fun _ _ z => z, h⟩
            · rw [if_neg fun z => of_decide_eq_false g1 z.1] at h
              exact ⟨_, fun _ _ z => z, h⟩
          obtain ⟨c, hc, hm⟩ := atI_get (xs := x) (d := 0) (by decide) (by cases x with
            | nil => exact absurd rfl h1
            | cons _ _ => simp)
          have hc0 : x[0]? = some c := by
            cases x with
            | nil => exact absurd rfl h1
            | cons a r =>
              have : atI (a :: r) 0 = some a := by
                unfold atI ixN
                rw [if_pos (by decide), if_pos (by simp)]
                rfl
              rw [this] at hc
              simpa using hc
          refine ⟨c, hc, rfl, rfl, Br.mk (fun g1 => ?_) fun g1 => fin fun z => ?_⟩
          · have g1 : [c] = [48] := of_decide_eq_true g1
            refine ⟨rfl, rfl, Br.mk (fun g2 => ?_) fun g2 => fin fun z => ?_⟩
            · have g2 : ¬ x = [48] := by
                have := g2
                simpa [eqM] using this
              rw [if_pos ⟨by rw [hc0]; injection g1 with g1 _; rw [g1], g2⟩] at h
              exact ⟨_, fun _ _ z => z, h⟩
            · have g2 : x = [48] := by
                have := g2
                simpa [eqM] using this
              exact z.2 g2
          · have g1 : ¬ [c] = [48] := of_decide_eq_false g1
            rw [hc0] at z
            exact g1 (by rw [Option.some.inj z.1])
  all_goals first
    | exact ⟨_, fun _ _ z => z, h⟩
    | exact absurd hv (by simp [okV])
theorem parsed_ok (v : MV) (lo hi : Int) (hv : okV v = true) (h : Q (parseV lo hi v) G) : evF C f13 [v, .int lo, .int hi] G Q E := by
  cases v
  case str x =>
    have hl : x.length ≤ 400 := by simpa [okV] using hv
    refine ⟨rfl, rfl, Br.mk (fun h1 => ?_) fun h1 => ?_⟩
    · have h1 : x = [] := of_decide_eq_true h1
      refine ⟨_, fun _ _ z => z, ?_⟩
      dsimp only [parseV] at h
      rw [if_pos h1] at h
      exact h
    · have h1 : ¬ x = [] := of_decide_eq_false h1
      refine lc_fm (selF fun c => !decide (c ∈ DIG)) True.intro _ _ (fun y hy K1 K2 k1 k2 => ?_) ?_
      · obtain ⟨c, _, rfl⟩ := List.mem_map.mp hy
        exact Br.mk (fun z => k1 _ (sel_t z)) fun z => k2 (sel_f z)
      · rw [List.nil_append, fil_map]
        refine .inl (.inl ⟨plain_sg x _, rfl, ?_⟩)
        rw [eqL_nil]
        refine Br.mk (fun h2 => ?_) fun h2 => ?_
        · have h2 : x.all (fun c => decide (c ∈ DIG)) = false := by simpa using h2
          refine ⟨_, fun _ _ z => z, ?_⟩
          dsimp only [parseV] at h
          rw [if_neg h1, if_pos h2] at h
          exact h
        · have h2 : x.all (fun c => decide (c ∈ DIG)) = true := by simpa using h2
          dsimp only [parseV] at h
          rw [if_neg h1, if_neg (by rw [h2]; decide)] at h
          have h3 := dig_all h2
          have fin : ¬ (x[0]? = some 48 ∧ x ≠ [48]) → forM (.nm 4) (evB C [.asg (.nm 3) (.bin .Add (.bin .Mult (.cst (.int 10)) (.var 3)) (.meth .sindex (.cst (.str [48, 49, 50, 51, 52, 53, 54, 55, 56, 57])) [.var 4]))]) (fun _ => True)
              { endF Q E with nx := evB C [.ret (.ite (.chain .LtE .LtE (.var 1) (.var 3) (.var 2)) (.var 3) (.cst .non))] (endF Q E) } (x.map fun c => .str [c]) [some (.str x), some (.int lo), some (.int hi), some (.int 0), none] G := fun hz => by
            rw [if_neg hz] at h
            refine for_ind (fun xs σ G' => G' = G ∧ ∃ (done rest : Tx) (s : Option MV), x = done ++ rest ∧ xs = (rest.map fun c => .str [c]) ∧ σ = [some (.str x), some (.int lo), some (.int hi), some (.int (valOf done)), s]) ?_ ?_ _ _ _ ⟨rfl, [], x, none, rfl, rfl, rfl⟩
            · rintro y xs σ G' K ⟨rfl, done, rest, s, e1, e2, rfl⟩ hK
              cases rest with
              | nil => cases e2
              | cons c rest =>
                injection e2 with e2 e3
                subst e2
                have hd : ∀ d ∈ done, d ∈ DIG := fun d hd => h3 d (by rw [e1]; simp [hd])
                have hc : c ∈ DIG := h3 c (by rw [e1]; simp)
                have hlen : done.length ≤ 400 := by
                  have : x.length = done.length + (rest.length + 1) := by rw [e1, List.length_append, List.length_cons]
                  omega
                have hlog := dig_log hlen hd
                refine ⟨True.intro, ?_⟩
                refine ⟨?_, c - 48, dig_at hc, by decide, ?_⟩
                · show (10 : Int).natAbs.log2 + (valOf done).natAbs.log2 < 1000000
                  have : (10 : Int).natAbs.log2 = 3 := by decide
                  omega
                refine hK _ _ ⟨rfl, done ++ [c], rest, some (.str [c]), by rw [e1]; simp, e3, ?_⟩
                rw [dig_val]
                rfl
            · rintro σ G' ⟨rfl, done, rest, s, e1, e2, rfl⟩
              cases rest with
              | cons c rest => cases e2
              | nil =>
                rw [List.append_nil] at e1
                subst e1
                refine ⟨True.intro, Br.mk (fun g1 => Br.mk (fun g2 => ?_) fun g2 => ?_) fun g1 => ?_⟩
                · rw [if_pos ⟨of_decide_eq_true g1, of_decide_eq_true g2⟩] at h
                  exact ⟨_, fun _ _ z => z, h⟩
                · rw [if_neg fun z => of_decide_eq_false g2 z.2] at h
                  exact ⟨_, fun _ _ z => z, h⟩
                · rw [if_neg fun z => of_decide_eq_false g1 z.1] at h
                  exact ⟨_, fun _ _ z => z, h⟩
          obtain ⟨c, hc, hm⟩ := atI_get (xs := x) (d := 0) (by decide) (by cases x with
            | nil => exact absurd rfl h1
            | cons _ _ => simp)
          have hc0 : x[0]? = some c := by
            cases x with
            | nil => exact absurd rfl h1
            | cons a r =>
              have : atI (a :: r) 0 = some a := by
                unfold atI ixN
                rw [if_pos (by decide), if_pos (by simp)]
                rfl
              rw [this] at hc
              simpa using hc
          refine ⟨c, hc, rfl, rfl, Br.mk (fun g1 => ?_) fun g1 => fin fun z => ?_⟩
          · have g1 : [c] = [48] := of_decide_eq_true g1
            refine Br.mk (fun g2 => ?_) fun g2 => fin fun z => ?_
            · have g2 : (1 : Int) < x.length := of_decide_eq_true g2
              rw [if_pos ⟨by rw [hc0]; injection g1 with g1 _; rw [g1], fun z => by rw [z] at g2; exact absurd g2 (by decide)⟩] at h
              exact ⟨_, fun _ _ z => z, h⟩
            · have g2 : ¬ (1 : Int) < x.length := of_decide_eq_false g2
              refine z.2 ?_
              cases x with
              | nil => exact absurd rfl h1
              | cons a r =>
                cases r with
                | nil =>
                  rw [← g1]
                  rw [List.getElem?_cons_zero] at hc0
                  rw [Option.some.inj hc0]
                | cons b r =>
                  exfalso
                  apply g2
                  simp
                  omega
          · have g1 : ¬ [c] = [48] := of_decide_eq_false g1
            rw [hc0] at z
            exact g1 (by rw [Option.some.inj z.1])
  all_goals first
    | exact ⟨_, fun _ _ z => z, h⟩
    | exact absurd hv (by simp [okV])
end
end MP

set_option Elab.async false
set_option linter.all false
set_option maxRecDepth 100000
set_option maxHeartbeats 4000000
namespace MP
open PySem PySem.Spec PyProof.Rows L2
def badW (w : Tx) : Bool := decide (w = []) || decide (10 ∈ w)
def wordsV : MV → Option (List Tx)
  | .str x => if (splitT 32 [] x).any badW then none else some (splitT 32 [] x)
  | _ => none
def mapW (f : Tx → Bool) : MV → Option MV
  | .str w => some (.bl (f w))
  | _ => none
theorem blsW (f : Tx → Bool) : ∀ ts : List Tx, blsOf ((ts.map .str).filterMap (mapW f)) = some (ts.map f)
  | [] => rfl
  | t :: r => by
    have e := blsW f r
    show Option.map _ (blsOf _) = _
    rw [e]
    rfl
theorem any_nl : ∀ (x acc : Tx), (splitT 32 acc x).any (fun w => decide (10 ∈ w)) = (decide (10 ∈ acc) || decide (10 ∈ x))
  | [], acc => by simp [splitT]
  | a :: r, acc => by
    unfold splitT
    split
    · rename_i e
      subst e
      rw [List.any_cons, any_nl r []]
      simp
    · rw [any_nl r]
      simp [Bool.or_assoc]
theorem any_or {α : Type} (f g : α → Bool) : ∀ l : List α, (l.any fun w => f w || g w) = (l.any f || l.any g)
  | [] => rfl
  | a :: r => by
    rw [List.any_cons, any_or f g r, List.any_cons, List.any_cons]
    cases f a <;> cases g a <;> cases r.any f <;> cases r.any g <;> rfl
theorem any_bad (x : Tx) : (splitT 32 [] x).any badW = ((splitT 32 [] x).any (fun w => decide (w = [])) || decide (10 ∈ x)) := by
  unfold badW
  rw [any_or, any_nl]
  simp
theorem any_eq (ts : List Tx) : ((ts.map MV.str).any fun z => eqM z (.str [])) = ts.any fun w => decide (w = []) := by
  rw [List.any_map]
  rfl
theorem neg_at (done : List Tx) (cur : Tx) : atI ((done ++ [cur]).map MV.str) (-1) = some (.str cur) ∧ ixN ((done ++ [cur]).map MV.str).length (-1) = some done.length := by
  have e : ixN ((done ++ [cur]).map MV.str).length (-1) = some done.length := by
    unfold ixN
    rw [if_neg (by decide), if_pos (by simp; omega)]
    simp
    omega
  refine ⟨?_, e⟩
  unfold atI
  rw [e]
  simp
theorem set_last (done : List Tx) (cur cur' : Tx) : stv ((done ++ [cur]).map MV.str) done.length (.str cur') = (done ++ [cur']).map MV.str := by
  rw [stv_eq]
  simp
section
variable (C : Sem0) (G : MH) (Q : MQ) (E : MX → MH → Prop)
theorem split_ok (v : MV) (hv : okV v = true) (h0 : wordsV v = none → ∀ G', (∀ a o, G a = some o → G' a = some o) → Q .non G')
    (h1 : ∀ ts p G', wordsV v = some ts → G p = none → G' p = some (.lst (ts.map .str)) → (∀ a o, G a = some o → G' a = some o) → Q (.ref p) G') : evF C f3 [v] G Q E := by
  cases v
  case str x =>
    have hl : x.length ≤ 400 := by simpa [okV] using hv
    refine ⟨by decide, by rw [sizeLine_eq]; omega, .inr fun p hp => ?_⟩
    have ex : ∀ a o, G a = some o → mup G p (.lst ((splitT 32 [] x).map .str)) a = some o := fun a o z => by
      rw [mup_ne]
      · exact z
      · intro e
        rw [e, hp] at z
        cases z
    refine ⟨_, mup_same, ?_⟩
    refine lc_fm (mapW badW) mup_same _ _ (fun y hy K1 K2 k1 k2 => ?_) ?_
    · obtain ⟨w, _, rfl⟩ := List.mem_map.mp hy
      refine ⟨rfl, rfl, Br.mk (fun z => k1 _ ?_) fun z => k1 _ ?_⟩
      · have z : decide (w = []) = true := z
        dsimp only [mapW, badW]
        rw [z]
        rfl
      · have z : decide (w = []) = false := z
        dsimp only [mapW, badW]
        rw [z]
        rfl
    · refine .inl ⟨_, blsW badW _, ?_⟩
      have e : ((splitT 32 [] x).map badW).any id = (splitT 32 [] x).any badW := by
        rw [List.any_map]
        rfl
      rw [e]
      refine Br.mk (fun z => ?_) fun z => ?_
      · exact ⟨_, fun _ _ z => z, h0 (by dsimp only [wordsV]; rw [if_pos z]) _ ex⟩
      · exact ⟨_, fun _ _ z => z, h1 _ p _ (by dsimp only [wordsV]; rw [if_neg (by rw [z]; decide)]) hp mup_same ex⟩
  all_goals first
    | exact ⟨_, fun _ _ z => z, h0 rfl _ fun _ _ z => z⟩
    | exact absurd hv (by simp [okV])
theorem lawwords_ok (v : MV) (hv : okV v = true) (h0 : wordsV v = none → ∀ G', (∀ a o, G a = some o → G' a = some o) → Q .non G')
    (h1 : ∀ ts p G', wordsV v = some ts → G p = none → G' p = some (.lst (ts.map .str)) → (∀ a o, G a = some o → G' a = some o) → Q (.ref p) G') : evF C f14 [v] G Q E := by
  cases v
  case str x =>
    have hl : x.length ≤ 400 := by simpa [okV] using hv
    refine Br.mk (fun z => ?_) fun z => ?_
    · have z : decide (10 ∈ x) = true := z
      refine ⟨_, fun _ _ z => z, h0 ?_ _ fun _ _ z => z⟩
      dsimp only [wordsV]
      rw [if_pos]
      rw [any_bad, z, Bool.or_true]
    · have nz : decide (10 ∈ x) = false := z
      refine .inr fun p hp => ?_
      have ex : ∀ (l : List MV) a o, G a = some o → mup G p (.lst l) a = some o := fun l a o z => by
        rw [mup_ne]
        · exact z
        · intro e
          rw [e, hp] at z
          cases z
      refine for_ind (fun xs σ G' => ∃ (done : List Tx) (cur rest : Tx) (s : Option MV), splitT 32 [] x = done ++ splitT 32 cur rest ∧ xs = (rest.map fun c => MV.str [c]) ∧ σ = [some (.str x), some (.ref p), s] ∧ G' = mup G p (.lst ((done ++ [cur]).map .str)) ∧ cur.length + rest.length ≤ x.length ∧ done.length + rest.length ≤ x.length)
        ?_ ?_ _ _ _ ⟨[], [], x, none, rfl, rfl, rfl, rfl, by simp, by simp⟩
      · rintro y xs σ G' K ⟨done, cur, rest, s, e1, e2, rfl, rfl, l1, l2⟩ hK
        cases rest with
        | nil => cases e2
        | cons c rest =>
          injection e2 with e2 e3
          subst e2
          rw [List.length_cons] at l1 l2
          refine ⟨True.intro, rfl, rfl, Br.mk (fun z => ?_) fun z => ?_⟩
          · have z : [c] = [32] := of_decide_eq_true z
            injection z with z _
            refine ⟨⟨_, mup_same⟩, _, mup_same, by rw [sizeLine_eq]; simp; omega, ?_⟩
            refine hK _ _ ⟨done ++ [cur], [], rest, some (.str [c]), ?_, e3, rfl, ?_, by simp; omega, by simp; omega⟩
            · rw [e1]
              unfold splitT
              rw [if_pos z, List.append_assoc]
              cases rest <;> rfl
            · rw [mup_mup]
              simp
          · have z : ¬ [c] = [32] := of_decide_eq_false z
            obtain ⟨g1, g2⟩ := neg_at done cur
            refine ⟨_, mup_same, _, g1, ?_⟩
            refine ⟨by rw [sizeLine_eq]; simp; omega, ?_⟩
            refine ⟨_, _, mup_same, g2, ?_⟩
            refine hK _ _ ⟨done, cur ++ [c], rest, some (.str [c]), ?_, e3, rfl, ?_, by simp; omega, by omega⟩
            · rw [e1]
              conv => lhs; unfold splitT
              rw [if_neg fun z2 => z (by rw [z2])]
            · rw [mup_mup, set_last]
      · rintro σ G' ⟨done, cur, rest, s, e1, e2, rfl, rfl, l1, l2⟩
        cases rest with
        | cons c rest => cases e2
        | nil =>
          have e1 : splitT 32 [] x = done ++ [cur] := e1
          refine ⟨True.intro, ⟨_, mup_same, rfl, plain_strs _ _, ?_⟩⟩
          rw [any_eq]
          refine Br.mk (fun z => ?_) fun z => ?_
          · refine ⟨_, fun _ _ z => z, h0 ?_ _ (ex _)⟩
            dsimp only [wordsV]
            rw [if_pos]
            rw [any_bad, e1, z, Bool.true_or]
          · refine ⟨_, fun _ _ z => z, h1 _ p _ ?_ hp mup_same (ex _)⟩
            dsimp only [wordsV]
            rw [if_neg]
            · rw [e1]
            · rw [any_bad, e1, z, nz]
              decide
  all_goals first
    | exact ⟨_, fun _ _ z => z, h0 rfl _ fun _ _ z => z⟩
    | exact absurd hv (by simp [okV])
end
end MP

set_option Elab.async false
set_option linter.all false
set_option maxRecDepth 100000
set_option maxHeartbeats 4000000
namespace MP
open PySem PySem.Spec PyProof.Rows L2
theorem flat_parse (a b : Int) (v : MV) : flatM (parseV a b v) = true := by
  unfold parseV
  repeat' split
  all_goals rfl
theorem eqL_strs : ∀ ts : List Tx, eqL (ts.map .str) (ts.map .str) = true
  | [] => rfl
  | t :: r => by
    rw [List.map_cons]
    unfold eqL
    rw [eqL_strs r, Bool.and_true]
    unfold eqM
    simp
theorem splitT_len (c : Nat) : ∀ (x acc : Tx), (splitT c acc x).length ≤ x.length + 1
  | [], acc => by simp [splitT]
  | a :: r, acc => by
    unfold splitT
    split
    · rw [List.length_cons, List.length_cons]
      have := splitT_len c r []
      omega
    · rw [List.length_cons]
      have := splitT_len c r (acc ++ [a])
      omega
theorem words_len {v : MV} (hv : okV v = true) {ts : List Tx} (h : wordsV v = some ts) : ts.length ≤ 401 := by
  cases v
  case str x =>
    have hl : x.length ≤ 400 := by simpa [okV] using hv
    dsimp only [wordsV] at h
    split at h
    · cases h
    · cases h
      have := splitT_len 32 x []
      omega
  all_goals cases h
def WordsS (C : Sem0) (f : Nat) (v : MV) : Prop := ∀ (G : MH) (Q : MQ) (E : MX → MH → Prop), (wordsV v = none → ∀ G', (∀ a o, G a = some o → G' a = some o) → Q .non G') →
    (∀ ts p G', wordsV v = some ts → G p = none → G' p = some (.lst (ts.map .str)) → (∀ a o, G a = some o → G' a = some o) → Q (.ref p) G') → C f [v] G Q E
theorem whole_e (C : Sem0) (v : MV) (lo hi : Int) (hv : okV v = true) (r : MSt) (G : MH) (Q : MQ) (W : MW) (h : Q (.bl (intB lo hi v)) G) :
    evE C (.and (.prim .isinst [.var 0, .ty .int]) (.and (.not (.prim .isinst [.var 0, .ty .bool])) (.chain .LtE .LtE (.var 1) (.var 0) (.var 2)))) (some v :: some (.int lo) :: some (.int hi) :: r) G Q W := by
  cases v
  case int i =>
    refine Br.mk (fun h1 => ?_) fun h1 => ?_
    · dsimp only [intB] at h
      rw [h1, Bool.true_and] at h
      exact h
    · dsimp only [intB] at h
      rw [h1, Bool.false_and] at h
      exact h
  all_goals first
    | exact h
    | exact absurd hv (by simp [okV])
theorem right_ok (C : Sem0) (v : MV) (lo hi : Int) (hv : okV v = true)
    (h0 : ∀ (G : MH) (Q : MQ) (E : MX → MH → Prop), Q (.bl (nameB v)) G → C 0 [v] G Q E) (h12 : ∀ (G : MH) (Q : MQ) (E : MX → MH → Prop), Q (.bl (nameB v)) G → C 12 [v] G Q E)
    (h1 : ∀ (G : MH) (Q : MQ) (E : MX → MH → Prop), Q (.bl (intB lo hi v)) G → C 1 [v, .int lo, .int hi] G Q E)
    (h2 : ∀ (a b : Int) (G : MH) (Q : MQ) (E : MX → MH → Prop), Q (parseV a b v) G → C 2 [v, .int a, .int b] G Q E) (h13 : ∀ (a b : Int) (G : MH) (Q : MQ) (E : MX → MH → Prop), Q (parseV a b v) G → C 13 [v, .int a, .int b] G Q E)
    (h15 : ∀ (u : MV) (G : MH) (Q : MQ) (E : MX → MH → Prop), flatM u = true → Q (.bl true) G → C 15 [u, u] G Q E) (h3 : WordsS C 3 v) (h14 : WordsS C 14 v)
    (G : MH) (Q : MQ) (E : MX → MH → Prop) (h : ∀ G', Q (.bl true) G') : evF C f16 [v, .int lo, .int hi] G Q E := by
  refine whole_e C v lo hi hv _ _ _ _ ?_
  refine h0 _ _ _ (h12 _ _ _ (h15 _ _ _ _ rfl (h1 _ _ _ (h15 _ _ _ _ rfl ?_))))
  refine h2 _ _ _ _ _ (h2 _ _ _ _ _ (h2 _ _ _ _ _ (.inr fun p hp => ?_)))
  refine ⟨⟨_, mup_same⟩, h2 _ _ _ _ _ ⟨_, mup_same, by rw [sizeLine_eq]; show 3 < 16777216; decide, ?_⟩⟩
  rw [mup_mup]
  refine h13 _ _ _ _ _ (h13 _ _ _ _ _ (h13 _ _ _ _ _ (.inr fun q hq => ?_)))
  have npq : p ≠ q := fun z => by
    rw [← z, mup_same] at hq
    cases hq
  refine ⟨⟨_, mup_same⟩, h13 _ _ _ _ _ ⟨_, mup_same, by rw [sizeLine_eq]; show 3 < 16777216; decide, ?_⟩⟩
  rw [mup_mup]
  refine ⟨by decide, by decide, ?_⟩
  refine lc_fm (fun _ => none) True.intro _ _ (fun y hy K1 K2 k1 k2 => ?_) ?_
  · obtain ⟨i, hi, rfl⟩ := List.mem_map.mp hy
    have hi : i < 4 := List.mem_range.mp hi
    have hi : i = 0 ∨ i = 1 ∨ i = 2 ∨ i = 3 := by omega
    rcases hi with rfl | rfl | rfl | rfl
    all_goals
      refine ⟨_, (by rw [mup_ne npq]; exact mup_same), _, rfl, _, mup_same, _, rfl, ?_⟩
      exact h15 _ _ _ _ (flat_parse _ _ _) (k2 rfl)
  · have e : ∀ l : List MV, l.filterMap (fun _ : MV => (none : Option MV)) = [] := fun l => by induction l <;> simp_all
    rw [e]
    refine .inl (.inl ⟨rfl, rfl, ?_⟩)
    refine h14 _ _ _ (fun w G1 e1 => ?_) fun ts r G1 w hr hr1 e1 => ?_
    · refine ⟨by decide, by decide, for_ind (fun xs σ G' => ∃ s7 s8 s9, σ = [some v, some (.int lo), some (.int hi), some (.bl (intB lo hi v)), some (.ref p), some (.ref q), some .non, s7, s8, s9]) ?_ ?_ _ _ _ ⟨_, _, _, rfl⟩⟩
      · rintro x xs σ G2 K ⟨s7, s8, s9, rfl⟩ hK
        refine ⟨True.intro, h3 _ _ _ (fun _ G3 e3 => ?_) fun ts r G1 w2 => ?_⟩
        · exact ⟨rfl, rfl, hK _ _ ⟨_, _, _, rfl⟩⟩
        · rw [w] at w2
          cases w2
      · rintro σ G2 ⟨s7, s8, s9, rfl⟩
        exact ⟨True.intro, _, fun _ _ z => z, h _⟩
    · refine ⟨by decide, by decide, for_ind (fun xs σ G' => G' r = some (.lst (ts.map .str)) ∧ ∃ s7 s8 s9, σ = [some v, some (.int lo), some (.int hi), some (.bl (intB lo hi v)), some (.ref p), some (.ref q), some (.ref r), s7, s8, s9]) ?_ ?_ _ _ _ ⟨hr1, _, _, _, rfl⟩⟩
      · rintro x xs σ G2 K ⟨g, s7, s8, s9, rfl⟩ hK
        refine ⟨True.intro, h3 _ _ _ (fun w2 => ?_) fun ts2 t G3 w2 ht ht1 e3 => ?_⟩
        · rw [w] at w2
          cases w2
        · rw [w] at w2
          cases w2
          have ntr : r ≠ t := fun z => by
            rw [z, ht] at g
            cases g
          refine ⟨_, _, ht1, rfl, ?_⟩
          refine ⟨_, ht1, _, e3 _ _ g, plain_lst ts, plain_lst ts, ?_⟩
          have ee : eqM (.lst (ts.map .str)) (.lst (ts.map .str)) = true := eqL_strs ts
          rw [ee]
          refine ⟨⟨_, ht1⟩, _, ht1, ?_, hK _ _ ⟨by rw [mup_ne ntr]; exact e3 _ _ g, _, _, _, rfl⟩⟩
          rw [List.length_map, sizeLine_eq]
          have := words_len hv w
          omega
      · rintro σ G2 ⟨g, s7, s8, s9, rfl⟩
        exact ⟨True.intro, _, fun _ _ z => z, h _⟩
end MP

set_option Elab.async false
set_option linter.all false
set_option maxRecDepth 100000
set_option maxHeartbeats 4000000
namespace MP
open PySem PySem.Spec PyProof.Rows L2
theorem numT_nat (n : Nat) : numT (n : Int) = TL.numL n := by
  unfold numT
  exact TL.tl_num n
theorem numT_len {i : Int} (h1 : -5 < i) (h2 : i < 10 ^ 30) : (numT i).length ≤ 30 := by
  by_cases e : 0 ≤ i
  · obtain ⟨n, rfl⟩ := Int.eq_ofNat_of_zero_le e
    rw [numT_nat]
    exact TL.numL_len (by decide) (by omega)
  · have : i = -4 ∨ i = -3 ∨ i = -2 ∨ i = -1 := by omega
    rcases this with rfl | rfl | rfl | rfl <;> decide
theorem log_lt2 {i : Int} (h1 : -5 < i) (h2 : i < 10 ^ 30) : i.natAbs.log2 < 1920 := by
  by_cases e : i.natAbs = 0
  · rw [e]; decide
  · rw [Nat.log2_lt e]
    have : i.natAbs < 2 ^ 100 := by omega
    exact Nat.lt_of_lt_of_le this (Nat.pow_le_pow_right (by decide) (by decide))
theorem law_ok (C : Sem0) (ns : List Int)
    (h4 : ∀ (i : Nat) (G : MH) (Q : MQ) (E : MX → MH → Prop), i < 64 → (∀ n : Int, Q (.int n) G) → C 4 [.klst (ns.map .int), .int i] G Q E)
    (h5 : ∀ (n : Int) (G : MH) (Q : MQ) (E : MX → MH → Prop), (∀ b G', Bag G' b 0 → Q (.ref b) G') → C 5 [.int n] G Q E)
    (h6 : TakeS C) (h8 : StrS C 8 20 21) (h9 : StrS C 9 40 70) (h10 : ∀ (b : Addr) (k : Nat) (G : MH) (Q : MQ) (E : MX → MH → Prop), Bag G b k → k ≤ 40000 → (∀ x G', x.length ≤ 200 → Bag G' b (k + 90) → Q (.str x) G') → C 10 [.ref b] G Q E)
    (h11 : ∀ (b : Addr) (k : Nat) (G : MH) (Q : MQ) (E : MX → MH → Prop), Bag G b k → k ≤ 60000 → (∀ v G', okV v = true → Bag G' b (k + 1) → Q v G') → C 11 [.ref b] G Q E)
    (h16 : ∀ (v : MV) (lo hi : Int) (G : MH) (Q : MQ) (E : MX → MH → Prop), okV v = true → (∀ G', Q (.bl true) G') → C 16 [v, .int lo, .int hi] G Q E)
    (G : MH) (Q : MQ) (E : MX → MH → Prop) (h : ∀ G', Q (.bl true) G') : evF C f17 [.klst (ns.map .int)] G Q E := by
  have hm : ∀ l : Int, (let j : Int := if l < 8 then l else 8; if j > 2 then j else 2) ≤ 8 ∧ 2 ≤ (let j : Int := if l < 8 then l else 8; if j > 2 then j else 2) := fun l => by
    dsimp only
    constructor <;> (repeat' split) <;> omega
  obtain ⟨m1, m2⟩ := hm ((ns.map MV.int).length : Int)
  refine ⟨Int.le_trans (by decide) m2, Int.le_trans m1 (by decide), ?_⟩
  refine for_ind (fun xs σ G => (∀ y ∈ xs, ∃ i : Nat, y = .int i ∧ i < 64) ∧ ∃ s1 s2 s3 s4 s5 s6, σ = [some (.klst (ns.map .int)), s1, s2, s3, s4, s5, s6]) ?_ ?_ _ _ _ ⟨?_, _, _, _, _, _, _, rfl⟩
  · rintro x xs σ G1 K ⟨hx, s1, s2, s3, s4, s5, s6, rfl⟩ hK
    obtain ⟨i, rfl, hi⟩ := hx x (by simp)
    refine ⟨True.intro, ?_⟩
    refine h4 _ _ _ _ hi fun n => ?_
    refine h5 _ _ _ _ fun b G2 b0 => ?_
    refine h6 _ _ _ _ _ _ b0 (by omega) (by decide) (by decide) fun d1 G3 a1 a2 b1 => ?_
    refine h6 _ _ _ _ _ _ b1 (by omega) (by decide) (by decide) fun d2 G4 a3 a4 b2 => ?_
    refine ⟨powc (by decide) (by decide) (by decide) (by decide), powc (by decide) (by decide) (by decide) (by decide), .inl ?_⟩
    refine h6 _ _ _ _ _ _ b2 (by omega) (by decide) (by decide) fun d3 G5 a5 a6 b3 => ?_
    obtain ⟨hv, p1, p2⟩ := pick (xs := [.int (d2 - 2), .int (10 ^ (Int.toNat 9)), .int (10 ^ (Int.toNat 29))]) (p := fun v => match v with
      | .int i => decide (-2 ≤ i) && decide (i ≤ 10 ^ 29)
      | _ => false) (d := d3) a5 a6 (by
        simp
        refine ⟨by omega, by omega⟩)
    refine ⟨hv, p1, ?_⟩
    cases hv <;> simp at p2
    rename_i hi'
    refine h8 _ _ _ _ _ b3 (by omega) fun x1 G6 c1 b4 => h8 _ _ _ _ _ b4 (by omega) fun x2 G7 c2 b5 => h9 _ _ _ _ _ b5 (by omega) fun x3 G8 c3 b6 => h9 _ _ _ _ _ b6 (by omega) fun x4 G9 c4 b7 => h10 _ _ _ _ _ b7 (by omega) fun x5 G10 c5 b8 => .inl ?_
    refine h11 _ _ _ _ _ b8 (by omega) fun o G11 ho b9 => ?_
    have z1 : -5 < d1 - 4 ∧ d1 - 4 < 10 ^ 30 := by omega
    have z2 : -5 < hi' ∧ hi' + 1 < 10 ^ 30 := by omega
    have ab : ∀ i : Int, -5 < i → i + 1 < 10 ^ 30 → -5 < (if i < 0 then -i else i) ∧ (if i < 0 then -i else i) + 1 < 10 ^ 30 := fun i q1 q2 => by
      split <;> omega
    have z3 := ab (d1 - 4) z1.1 (by omega)
    have z4 := ab hi' z2.1 z2.2
    generalize ea : (if d1 - 4 < 0 then -(d1 - 4) else d1 - 4) = alo at z3
    generalize eb : (if hi' < 0 then -hi' else hi') = ahi at z4
    refine ⟨by rw [ea]; exact log_lt2 (by omega) (by omega), by rw [eb]; exact log_lt2 (by omega) (by omega), by decide, by decide, by rw [sizeLine_eq]; decide, .inl ?_⟩
    refine ⟨by rw [sizeLine_eq]; show 13 ≤ 16777216; decide, .inl ?_⟩
    refine ⟨by rw [eb]; exact log_lt2 (by omega) (by omega), by decide, by decide, by rw [sizeLine_eq]; decide, log_lt2 (by omega) (by omega), .inl ?_⟩
    refine ⟨by rw [sizeLine_eq]; show 23 ≤ 16777216; decide, .inl ?_⟩
    refine ⟨by decide, by decide, by rw [sizeLine_eq]; decide, by rw [sizeLine_eq]; decide, by decide, by decide, by rw [sizeLine_eq]; decide, by rw [sizeLine_eq]; decide, ?_⟩
    refine .inl ⟨by decide, by decide, by rw [sizeLine_eq]; decide, .inl ⟨_, strsOf_map (List.replicate 60 [97, 98]), by rw [sizeLine_eq]; decide, .inl ?_⟩⟩
    refine ⟨by rw [sizeLine_eq]; show 27 ≤ 16777216; decide, .inl ?_⟩
    refine .inl ⟨by rw [sizeLine_eq]; show 38 ≤ 16777216; decide, .inl ?_⟩
    rw [ea, eb]
    refine for_ind (fun xs σ G => (∀ y ∈ xs, okV y = true) ∧ ∃ s1 s2 s3 s4, σ = [some (.klst (ns.map .int)), s1, s2, s3, s4, some (.int (d1 - 4)), some (.int hi')]) ?_ ?_ _ _ _ ⟨?_, _, _, _, _, rfl⟩
    · rintro y ys σ G12 K2 ⟨hy, t1, t2, t3, t4, rfl⟩ hK2
      refine ⟨True.intro, h16 _ _ _ _ _ _ (hy y (by simp)) fun G13 => hK2 _ _ ⟨fun u hu => hy u (by simp [hu]), _, _, _, _, rfl⟩⟩
    · rintro σ G12 ⟨_, t1, t2, t3, t4, rfl⟩
      exact ⟨True.intro, hK _ _ ⟨fun y hy => hx y (by simp [hy]), _, _, _, _, _, _, rfl⟩⟩
    · have n1 := numT_len (i := alo) (by omega) (by omega)
      have n2 := numT_len (i := ahi) (by omega) (by omega)
      have n3 := numT_len (i := ahi + 1) (by omega) (by omega)
      have n4 := numT_len (i := d1 - 4) (by omega) (by omega)
      refine List.all_eq_true.mp ?_
      have kk : (joinT [32] (List.replicate 60 [97, 98])).length ≤ 400 := by decide
      have k2 : ∀ y : Tx, y.length ≤ 400 → okV (.str y) = true := fun y hy => decide_eq_true hy
      rw [List.all_append, List.all_append, List.all_append, List.all_append, Bool.and_eq_true, Bool.and_eq_true, Bool.and_eq_true, Bool.and_eq_true]
      refine ⟨⟨⟨⟨?_, ?_⟩, ?_⟩, ?_⟩, by decide⟩
      · rw [List.all_cons, List.all_cons, List.all_cons, List.all_cons, List.all_cons, k2 x1 (by omega), k2 x2 (by omega), k2 x3 (by omega), k2 x4 (by omega), k2 x5 (by omega)]
        rfl
      · rw [List.all_cons, ho, List.all_cons, List.all_cons, List.all_cons, List.all_cons, List.all_cons, k2 (numT alo) (by omega), List.all_cons, k2 (numT ahi) (by omega)]
        rfl
      · rw [List.all_cons, k2 (numT (ahi + 1)) (by omega), List.all_cons, List.all_cons, k2 (numT (d1 - 4)) (by omega)]
        rfl
      · rw [List.all_cons, List.all_cons, List.all_cons, List.all_cons, k2 _ kk]
        rfl
  · rintro σ G1 ⟨_, s1, s2, s3, s4, s5, s6, rfl⟩
    exact ⟨True.intro, _, fun _ _ z => z, h _⟩
  · intro y hy
    obtain ⟨i, hi, rfl⟩ := List.mem_map.mp hy
    have hi := List.mem_range.mp hi
    exact ⟨i, rfl, by omega⟩
abbrev depth : Nat := 6
theorem takeS (n : Nat) : TakeS (callN pr (n + 1)) := fun b c k G Q E h1 h2 h3 h4 h5 => take_ok _ b c k G Q E h1 h2 h3 h4 h5
theorem anyS (n : Nat) : AnyS (callN pr (n + 2)) := fun b k G Q E h1 h2 h3 => any_ok (takeS n) b k G Q E h1 h2 h3
theorem textS (n : Nat) : StrS (callN pr (n + 3)) 8 20 21 := fun b k G Q E h1 h2 h3 => text_ok (takeS (n + 1)) (anyS n) b k G Q E h1 (by omega) h3
theorem digitsS (n : Nat) : StrS (callN pr (n + 3)) 9 40 70 := fun b k G Q E h1 h2 h3 => digits_ok (takeS (n + 1)) (anyS n) b k G Q E h1 (by omega) h3
theorem law_true (ns : List Int) (_ : ns.length ≤ 63) : callN pr depth 17 [.klst (ns.map .int)] (fun _ => none) (fun v _ => v = .bl true) fun _ _ => False := by
  refine law_ok (callN pr 5) ns (fun i G Q E hi h => cell_ok _ ns i G Q E hi h) (fun n G Q E h => bag_ok _ n G Q E h) (takeS 4) (textS 2) (digitsS 2) (fun b k G Q E h1 h2 h3 => words_ok (takeS 3) (textS 1) b k G Q E h1 h2 h3)
    (fun b k G Q E h1 h2 h3 => odd_ok (takeS 3) b k G Q E h1 h2 h3) (fun v lo hi G Q E hv h => ?_) _ _ _ fun _ => rfl
  exact right_ok (callN pr 4) v lo hi hv (fun G Q E h => isname_ok _ G Q E v hv h) (fun G Q E h => lawname_ok _ G Q E v hv h) (fun G Q E h => isint_ok _ G Q E v lo hi hv h)
    (fun a b G Q E h => parse_ok _ G Q E v a b hv h) (fun a b G Q E h => parsed_ok _ G Q E v a b hv h) (fun u G Q E hu h => same_ok _ G Q E u hu h) (fun G Q E h0 h1 => split_ok _ G Q E v hv h0 h1) (fun G Q E h0 h1 => lawwords_ok _ G Q E v hv h0 h1) G Q E h
end MP

set_option Elab.async false
set_option linter.all false
set_option maxRecDepth 100000
open PySem PySem.W PyProof.Rows
set_option maxHeartbeats 0 in
theorem PySem.Challenge.cw_resampler_k01_names_integers_words_holds : PySem.Challenge.rw_resampler_k01_names_integers_words.Holds := by
  w_on; o_law; k_head; (case hw => w_witness2)
  k_fill
  refine MP.mp_walk (l := PySem.Challenge.rw_resampler_k01_names_integers_words) (T := MP.tb) (pr := MP.pr) (ds := MP.ds) (dL := MP.d17) (x := "_law_script") MP.depth (fun _ _ => 0) (fun _ => "") rfl rfl ⟨rfl, by decide, by decide⟩ (fun w h Y => PySem.W.kIn_of Y) (by simp [MP.ds]) rfl MP.ok_all ?F MP.law_true
  case F =>
    intro w mg fa h KX G hmg
    refine' MP.fin_mk KX G hmg ?D0 ?D1 ?D2 ?D3 ?D4 ?D5 ?D6 ?D7 ?D8 ?D9 ?D10 ?D11 ?D12 ?D13 ?D14 ?D15 ?D16 ?D17 ?g_LONGEST_NAME ?g_LETTERS ?g_DIGITS ?z_abs ?z_all ?z_any ?z_bool ?z_dict ?z_int ?z_isinstance ?z_len ?z_list ?z_max ?z_min ?z_range ?z_str ?z_tuple
    (case D0 => refine' MP.df_mk0 ?g ?l ?c ?k; (case g => k_is); (case l => k_is); (case c => k_is); (case k => k_is))
    (case D1 => refine' MP.df_mk0 ?g ?l ?c ?k; (case g => k_is); (case l => k_is); (case c => k_is); (case k => k_is))
    (case D2 => refine' MP.df_mk ?g ?l ?c ?k MP.dfl_no (MP.kwd_mk (MP.kw_cons ?q0 ?r0 (MP.kw_cons ?q1 ?r1 MP.kw_nil))); (case g => k_is); (case l => k_is); (case c => k_is); (case k => k_is); (case q0 => k_is); (case r0 => exact ⟨_, rfl⟩); (case q1 => k_is); (case r1 => exact ⟨_, rfl⟩))
    (case D3 => refine' MP.df_mk0 ?g ?l ?c ?k; (case g => k_is); (case l => k_is); (case c => k_is); (case k => k_is))
    (case D4 => refine' MP.df_mk0 ?g ?l ?c ?k; (case g => k_is); (case l => k_is); (case c => k_is); (case k => k_is))
    (case D5 => refine' MP.df_mk0 ?g ?l ?c ?k; (case g => k_is); (case l => k_is); (case c => k_is); (case k => k_is))
    (case D6 => refine' MP.df_mk0 ?g ?l ?c ?k; (case g => k_is); (case l => k_is); (case c => k_is); (case k => k_is))
    (case D7 => refine' MP.df_mk0 ?g ?l ?c ?k; (case g => k_is); (case l => k_is); (case c => k_is); (case k => k_is))
    (case D8 => refine' MP.df_mk0 ?g ?l ?c ?k; (case g => k_is); (case l => k_is); (case c => k_is); (case k => k_is))
    (case D9 => refine' MP.df_mk0 ?g ?l ?c ?k; (case g => k_is); (case l => k_is); (case c => k_is); (case k => k_is))
    (case D10 => refine' MP.df_mk0 ?g ?l ?c ?k; (case g => k_is); (case l => k_is); (case c => k_is); (case k => k_is))
    (case D11 => refine' MP.df_mk0 ?g ?l ?c ?k; (case g => k_is); (case l => k_is); (case c => k_is); (case k => k_is))
    (case D12 => refine' MP.df_mk0 ?g ?l ?c ?k; (case g => k_is); (case l => k_is); (case c => k_is); (case k => k_is))
    (case D13 => refine' MP.df_mk0 ?g ?l ?c ?k; (case g => k_is); (case l => k_is); (case c => k_is); (case k => k_is))
    (case D14 => refine' MP.df_mk0 ?g ?l ?c ?k; (case g => k_is); (case l => k_is); (case c => k_is); (case k => k_is))
    (case D15 => refine' MP.df_mk0 ?g ?l ?c ?k; (case g => k_is); (case l => k_is); (case c => k_is); (case k => k_is))
    (case D16 => refine' MP.df_mk0 ?g ?l ?c ?k; (case g => k_is); (case l => k_is); (case c => k_is); (case k => k_is))
    (case D17 => refine' MP.df_mk0 ?g ?l ?c ?k; (case g => k_is); (case l => k_is); (case c => k_is); (case k => k_is))
    (case g_LONGEST_NAME => refine' MP.gl_mk ?g ?r; (case g => k_is); (case r => exact ⟨_, rfl⟩))
    (case g_LETTERS => refine' MP.gl_mk ?g ?r; (case g => k_is); (case r => exact ⟨_, rfl⟩))
    (case g_DIGITS => refine' MP.gl_mk ?g ?r; (case g => k_is); (case r => exact ⟨_, rfl⟩))
    (case z_abs => k_is)
    (case z_all => k_is)
    (case z_any => k_is)
    (case z_bool => k_is)
    (case z_dict => k_is)
    (case z_int => k_is)
    (case z_isinstance => k_is)
    (case z_len => k_is)
    (case z_list => k_is)
    (case z_max => k_is)
    (case z_min => k_is)
    (case z_range => k_is)
    (case z_str => k_is)
    (case z_tuple => k_is)
