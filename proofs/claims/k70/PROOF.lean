import PyProof.Rows.All
import Wide.All
import OpenK.AllK
import Wide.FinOn
import HandS.ForMost
import HandS.ForExc
import HandS.CallSlots
import HandS.HeadHook1
import HandS.Defaults
import HandS.MakeKwOnly
import HandS.Star
import HandS.IsInst
import HandS.Wide
import HandS.DictComp
import HandS.Zip
import HandS.NoneIn
import HandS.Style
import HandS.MapJoin
import HandS.StrMore
import HandS.StrSplit
import HandS.Small
import HandS.Iter
import HandS.EndBits
import HandS.Head0
import HandS.Head1
import HandS.Head2
import HandS.HeadEnd
import HandS.HeadHook2
import KE.KStateDown
import PySem.Challenge.RW_letineditions_k70_least_number_of_editio
set_option Elab.async false
set_option autoImplicit false
set_option linter.all false
set_option maxRecDepth 100000
set_option maxHeartbeats 0
/-! J1: data without a heap, what it stands for in a heap, denotations of expressions and statements, and their link to the judgements of the hand layer. -/
namespace JL
open PySem PySem.Spec L2

/-! ### data -/
inductive Dat where
  | non | bl (b : Bool) | int (i : Int) | str (s : Str) | ty (n : String) | glo (x : Str)
  | lst (xs : List Dat) | tup (xs : List Dat) | dct (kvs : List (Key × Dat)) | ins (C : Str) (fs : List (Str × Dat))
  | cell (l : Nat)
  | rol (xs : List Dat)
  deriving Inhabited
abbrev Env := List (Option Dat)
abbrev Sto := List (Option Dat)
structure Exn where
  cls : Str
  fs : List (Str × Dat)
inductive Out (α : Type) where
  | ok (a : α) (S : Sto)
  | rz (ex : Exn) (S : Sto)
  | stk
def Out.bind {α β : Type} (o : Out α) (f : α → Sto → Out β) : Out β := match o with
  | .ok a S => f a S
  | .rz ex S => .rz ex S
  | .stk => .stk
inductive Flow where
  | nx (env : Env) (S : Sto) | bk (env : Env) (S : Sto) | ct (env : Env) (S : Sto)
  | rt (d : Dat) (S : Sto) | rz (ex : Exn) (env : Env) (S : Sto) | stk
abbrev DE := Env → Sto → Out Dat
abbrev DT := Env → Sto → Out Bool
abbrev DA := Env → Sto → Out (List Dat)
abbrev DS := Env → Sto → Flow
abbrev Fn := List Dat → Sto → Out Dat

/-! ### what a datum stands for -/
mutual
def Rep (K : PySem.W.Frag) (G : Hp) : Dat → V → Prop
  | .non, v => v = .non
  | .bl b, v => v = .bl b
  | .int b, v => v = .int b
  | .str b, v => v = .str b
  | .ty b, v => v = .ty b
  | .glo x, v => v = .ref (He.ga K x)
  | .lst ds, v => ∃ a xs, v = .ref a ∧ G a = some (.lst xs) ∧ Reps K G ds xs
  | .tup ds, v => ∃ a xs, v = .ref a ∧ SqT K G a xs ∧ Reps K G ds xs
  | .dct es, v => ∃ a kvs, v = .ref a ∧ Rd G a (.dK kvs) ∧ RepK K G es kvs
  | .ins C gs, v => ∃ a dx fs, v = .ref a ∧ G a = some (.ins (He.ga K C) dx fs) ∧ RepF K G gs fs
  | .cell _, _ => False
  | .rol ds, v => ∃ a xs, v = .ref a ∧ SqL K G a xs ∧ Reps K G ds xs
def Reps (K : PySem.W.Frag) (G : Hp) : List Dat → List V → Prop
  | [], xs => xs = []
  | d :: ds, xs => ∃ x r, xs = x :: r ∧ Rep K G d x ∧ Reps K G ds r
def RepK (K : PySem.W.Frag) (G : Hp) : List (Key × Dat) → List (Key × V) → Prop
  | [], xs => xs = []
  | (k, d) :: ds, xs => ∃ x r, xs = (k, x) :: r ∧ Rep K G d x ∧ RepK K G ds r
def RepF (K : PySem.W.Frag) (G : Hp) : List (Str × Dat) → List (Str × V) → Prop
  | [], xs => xs = []
  | (k, d) :: ds, xs => ∃ x r, xs = (k, x) :: r ∧ Rep K G d x ∧ RepF K G ds r
end
def Ext (H H' : Hp) : Prop := ∀ a o, H a = some o → H' a = some o
theorem Ext.refl {H : Hp} : Ext H H := fun _ _ h => h
theorem Ext.trans {H H1 H2 : Hp} (a : Ext H H1) (b : Ext H1 H2) : Ext H H2 := fun x o h => b x o (a x o h)
theorem Ext.new {H : Hp} {p : Addr} {o : HO} (h : H p = none) : Ext H (upd H p o) := fun a u e => by
  rw [upd_ne (ne_of_none e h)]
  exact e
theorem Ext.rd {H H' : Hp} (e : Ext H H') {a : Addr} {u : HO} (h : Rd H a u) : Rd H' a u := by
  rcases h with h | ⟨o, h⟩
  · exact Or.inl (e a _ h)
  · exact Or.inr ⟨o, e a _ h⟩
theorem Ext.l {K : PySem.W.Frag} {H H' : Hp} (e : Ext H H') {a : Addr} {xs : List V} (h : SqL K H a xs) : SqL K H' a xs := h.imp e.rd id
theorem Ext.t {K : PySem.W.Frag} {H H' : Hp} (e : Ext H H') {a : Addr} {xs : List V} (h : SqT K H a xs) : SqT K H' a xs := h.imp e.rd id
/-- .. where dicts may come to be locked -/
def ExtG (H H' : Hp) : Prop := ∀ a o, H a = some o → H' a = some o ∨ ∃ kvs ob, o = .dK kvs ∧ H' a = some (.frz ob o)
theorem ExtG.refl {H : Hp} : ExtG H H := fun _ _ h => .inl h
theorem Ext.g {H H' : Hp} (e : Ext H H') : ExtG H H' := fun a o h => .inl (e a o h)
theorem ExtG.trans {H H1 H2 : Hp} (a : ExtG H H1) (b : ExtG H1 H2) : ExtG H H2 := fun x o h => by
  rcases a x o h with h1 | ⟨kvs, ob, rfl, h1⟩
  · exact b x o h1
  · rcases b x _ h1 with h2 | ⟨_, _, z, _⟩
    · exact .inr ⟨kvs, ob, rfl, h2⟩
    · cases z
theorem ExtG.new {H : Hp} {p : Addr} {o : HO} (h : H p = none) : ExtG H (upd H p o) := (Ext.new h).g
theorem ExtG.rd {H H' : Hp} (e : ExtG H H') {a : Addr} {u : HO} (h : Rd H a u) : Rd H' a u := by
  rcases h with h | ⟨o, h⟩
  · rcases e a _ h with q | ⟨kvs, ob, rfl, q⟩
    · exact Or.inl q
    · exact Or.inr ⟨ob, q⟩
  · rcases e a _ h with q | ⟨_, _, z, _⟩
    · exact Or.inr ⟨o, q⟩
    · cases z
theorem ExtG.l {K : PySem.W.Frag} {H H' : Hp} (e : ExtG H H') {a : Addr} {xs : List V} (h : SqL K H a xs) : SqL K H' a xs := h.imp e.rd id
theorem ExtG.t {K : PySem.W.Frag} {H H' : Hp} (e : ExtG H H') {a : Addr} {xs : List V} (h : SqT K H a xs) : SqT K H' a xs := h.imp e.rd id
theorem ExtG.lst {H H' : Hp} (e : ExtG H H') {a : Addr} {xs : List V} (h : H a = some (.lst xs)) : H' a = some (.lst xs) := by
  rcases e a _ h with q | ⟨_, _, z, _⟩
  · exact q
  · cases z
theorem ExtG.ins {H H' : Hp} (e : ExtG H H') {a C dx : Addr} {fs : List (Str × V)} (h : H a = some (.ins C dx fs)) : H' a = some (.ins C dx fs) := by
  rcases e a _ h with q | ⟨_, _, z, _⟩
  · exact q
  · cases z
section
variable {K : PySem.W.Frag}
mutual
theorem Rep.mono {G G' : Hp} (e : ExtG G G') : ∀ {d : Dat} {v : V}, Rep K G d v → Rep K G' d v
  | .non, v, h => h
  | .bl b, v, h => h
  | .int b, v, h => h
  | .str b, v, h => h
  | .ty b, v, h => h
  | .glo x, v, h => h
  | .lst ds, v, ⟨a, xs, e1, e2, e3⟩ => ⟨a, xs, e1, e.lst e2, Reps.mono e e3⟩
  | .tup ds, v, ⟨a, xs, e1, e2, e3⟩ => ⟨a, xs, e1, e.t e2, Reps.mono e e3⟩
  | .dct es, v, ⟨a, xs, e1, e2, e3⟩ => ⟨a, xs, e1, e.rd e2, RepK.mono e e3⟩
  | .ins C gs, v, ⟨a, dx, xs, e1, e2, e3⟩ => ⟨a, dx, xs, e1, e.ins e2, RepF.mono e e3⟩
  | .cell _, _, h => h
  | .rol ds, v, ⟨a, xs, e1, e2, e3⟩ => ⟨a, xs, e1, e.l e2, Reps.mono e e3⟩
theorem Reps.mono {G G' : Hp} (e : ExtG G G') : ∀ {d : List Dat} {v : List V}, Reps K G d v → Reps K G' d v
  | [], xs, h => h
  | d :: ds, xs, ⟨x, r, e1, e2, e3⟩ => ⟨x, r, e1, Rep.mono e e2, Reps.mono e e3⟩
theorem RepK.mono {G G' : Hp} (e : ExtG G G') : ∀ {d : List (Key × Dat)} {v : List (Key × V)}, RepK K G d v → RepK K G' d v
  | [], xs, h => h
  | (_, d) :: ds, xs, ⟨x, r, e1, e2, e3⟩ => ⟨x, r, e1, Rep.mono e e2, RepK.mono e e3⟩
theorem RepF.mono {G G' : Hp} (e : ExtG G G') : ∀ {d : List (Str × Dat)} {v : List (Str × V)}, RepF K G d v → RepF K G' d v
  | [], xs, h => h
  | (_, d) :: ds, xs, ⟨x, r, e1, e2, e3⟩ => ⟨x, r, e1, Rep.mono e e2, RepF.mono e e3⟩
end
end

/-! ### the world: immutable objects, addresses of the cells -/
structure Wd where
  G : Hp
  cs : List Addr
structure Wd.le (W W' : Wd) : Prop where
  G : ExtG W.G W'.G
  cs : ∃ r, W'.cs = W.cs ++ r
theorem Wd.le.refl {W : Wd} : W.le W := ⟨.refl, [], by simp⟩
theorem Wd.le.trans {A B C : Wd} (h : A.le B) (k : B.le C) : A.le C := by
  obtain ⟨h1, r, h2⟩ := h
  obtain ⟨k1, q, k2⟩ := k
  exact ⟨h1.trans k1, r ++ q, by rw [k2, h2, List.append_assoc]⟩
theorem Wd.le.at {W W' : Wd} (h : W.le W') {l : Nat} {a : Addr} (e : W.cs[l]? = some a) : W'.cs[l]? = some a := by
  obtain ⟨_, r, h2⟩ := h
  have hl : l < W.cs.length := (List.getElem?_eq_some_iff.mp e).1
  rw [h2, List.getElem?_append_left hl]
  exact e
/-- what stands in a cell -/
def CellOk (K : PySem.W.Frag) (G : Hp) : Dat → HO → Prop
  | .lst ds, o => ∃ xs, o = .lst xs ∧ Reps K G ds xs
  | .dct es, o => ∃ kvs, o = .dK kvs ∧ RepK K G es kvs
  | .ins C gs, o => ∃ dx fs, o = .ins (He.ga K C) dx fs ∧ RepF K G gs fs
  | _, _ => False
theorem CellOk.mono {K : PySem.W.Frag} {G G' : Hp} (e : ExtG G G') : ∀ {d : Dat} {o : HO}, CellOk K G d o → CellOk K G' d o
  | .lst _, _, ⟨xs, h1, h2⟩ => ⟨xs, h1, Reps.mono e h2⟩
  | .dct _, _, ⟨xs, h1, h2⟩ => ⟨xs, h1, RepK.mono e h2⟩
  | .ins _ _, _, ⟨dx, xs, h1, h2⟩ => ⟨dx, xs, h1, RepF.mono e h2⟩
structure SimS (K : PySem.W.Frag) (W : Wd) (S : Sto) (H : Hp) : Prop where
  sub : Ext W.G H
  len : S.length = W.cs.length
  nd : W.cs.Nodup
  cel : ∀ (l : Nat) (d : Dat), S[l]? = some (some d) → ∃ (a : Addr) (o : HO), W.cs[l]? = some a ∧ W.G a = none ∧ H a = some o ∧ CellOk K W.G d o
  trk : ∀ a ∈ W.cs, H a ≠ none
section
variable {K : PySem.W.Frag} {W : Wd} {S : Sto} {H : Hp} {a : Addr}
theorem SimS.ex (h : SimS K W S H) {o : HO} (e : W.G a = some o) : H a ≠ none := by
  rw [h.sub a o e]
  intro z
  cases z
theorem SimS.rd (h : SimS K W S H) {u : HO} (e : Rd W.G a u) : Rd H a u := h.sub.rd e
theorem SimS.l (h : SimS K W S H) {xs : List V} (e : SqL K W.G a xs) : SqL K H a xs := h.sub.l e
theorem SimS.t (h : SimS K W S H) {xs : List V} (e : SqT K W.G a xs) : SqT K H a xs := h.sub.t e
theorem SimS.ins (h : SimS K W S H) {C dx : Addr} {fs : List (Str × V)} (e : W.G a = some (.ins C dx fs)) : H a = some (.ins C dx fs) := h.sub _ _ e
end
/-- a step of the state: cells may change, all else that is known stays -/
structure Stp (W : Wd) (H : Hp) (W' : Wd) (H' : Hp) : Prop where
  le : W.le W'
  kp : ∀ a o, H a = some o → W.G a = none → a ∉ W.cs → H' a = some o ∧ W'.G a = none ∧ a ∉ W'.cs
theorem Stp.refl {W : Wd} {H : Hp} : Stp W H W H := ⟨.refl, fun _ _ h g k => ⟨h, g, k⟩⟩
theorem Stp.trans {A B C : Wd} {H H1 H2 : Hp} (h : Stp A H B H1) (k : Stp B H1 C H2) : Stp A H C H2 := ⟨h.le.trans k.le, fun a o e g n => let ⟨e1, g1, n1⟩ := h.kp a o e g n; k.kp a o e1 g1 n1⟩
def RepV (K : PySem.W.Frag) (W : Wd) (d : Dat) (v : V) : Prop := (∃ (l : Nat) (a : Addr), d = .cell l ∧ W.cs[l]? = some a ∧ v = .ref a) ∨ Rep K W.G d v
theorem RepV.mono {K : PySem.W.Frag} {W W' : Wd} (e : W.le W') {d : Dat} {v : V} (h : RepV K W d v) : RepV K W' d v := by
  rcases h with ⟨l, a, h1, h2, h3⟩ | h
  · exact Or.inl ⟨l, a, h1, e.at h2, h3⟩
  · exact Or.inr (h.mono e.G)
theorem RepV.of {K : PySem.W.Frag} {W : Wd} {d : Dat} {v : V} (h : Rep K W.G d v) : RepV K W d v := Or.inr h
structure SimE (K : PySem.W.Frag) (W : Wd) (env : Env) (σ : St) : Prop where
  len : env.length = σ.length
  at_ : ∀ (i : Nat) (d : Dat), env[i]? = some (some d) → ∃ v : V, σ[i]? = some (some v) ∧ RepV K W d v
theorem SimE.mono {K : PySem.W.Frag} {W W' : Wd} (e : W.le W') {env : Env} {σ : St} (h : SimE K W env σ) : SimE K W' env σ :=
  ⟨h.len, fun i d q => let ⟨v, a, b⟩ := h.at_ i d q; ⟨v, a, b.mono e⟩⟩
theorem SimE.set {K : PySem.W.Frag} {W : Wd} {env : Env} {σ : St} (h : SimE K W env σ) {d : Dat} {v : V} (r : RepV K W d v) (i : Nat) : SimE K W (env.set i (some d)) (σ.set i (some v)) := by
  refine ⟨by rw [List.length_set, List.length_set, h.len], fun j x e => ?_⟩
  by_cases hj : i = j
  · subst hj
    have hl : i < env.length := by
      have := (List.getElem?_eq_some_iff.mp e).1
      rwa [List.length_set] at this
    rw [List.getElem?_set_self hl] at e
    rw [List.getElem?_set_self (by rw [← h.len]; exact hl)]
    have e2 := Option.some.inj (Option.some.inj e)
    subst e2
    exact ⟨v, rfl, r⟩
  · rw [List.getElem?_set_ne hj] at e
    rw [List.getElem?_set_ne hj]
    exact h.at_ j x e
def RepVs (K : PySem.W.Frag) (W : Wd) : List Dat → List V → Prop
  | [], xs => xs = []
  | d :: ds, xs => ∃ x r, xs = x :: r ∧ RepV K W d x ∧ RepVs K W ds r
theorem RepVs.mono {K : PySem.W.Frag} {W W' : Wd} (e : W.le W') : ∀ {ds : List Dat} {vs : List V}, RepVs K W ds vs → RepVs K W' ds vs
  | [], _, h => h
  | _ :: _, _, ⟨x, r, e1, e2, e3⟩ => ⟨x, r, e1, e2.mono e, RepVs.mono e e3⟩
theorem RepVs.length {K : PySem.W.Frag} {W : Wd} : ∀ {ds : List Dat} {vs : List V}, RepVs K W ds vs → vs.length = ds.length
  | [], _, h => by cases h; rfl
  | _ :: _, _, ⟨x, r, e1, e2, e3⟩ => by rw [e1, List.length_cons, List.length_cons, RepVs.length e3]
theorem RepVs.append {K : PySem.W.Frag} {W : Wd} : ∀ {ds es : List Dat} {vs us : List V}, RepVs K W ds vs → RepVs K W es us → RepVs K W (ds ++ es) (vs ++ us)
  | [], _, _, _, h, k => by cases h; exact k
  | _ :: _, _, _, _, ⟨x, r, e1, e2, e3⟩, k => ⟨x, r ++ _, by rw [e1]; rfl, e2, RepVs.append e3 k⟩
def RepX (K : PySem.W.Frag) (W : Wd) (ex : Exn) (cls : Value) (dd : Option Addr) (H : Hp) : Prop := cls = .ref (He.ga K ex.cls) ∧ ∃ d fs, dd = some d ∧ H d = some (.xd fs) ∧ RepF K W.G ex.fs fs

/-! ### ends -/
section
variable (K : PySem.W.Frag) (W : Wd) (H : Hp) (Wx : WX) (σ : St)
def PostE (o : Out Dat) (Q : VK) : Prop := match o with
  | .ok d S' => ∀ W' H' v, Stp W H W' H' → SimS K W' S' H' → RepV K W' d v → Q v H'
  | .rz ex S' => ∀ W' H' cls dd, Stp W H W' H' → SimS K W' S' H' → RepX K W' ex cls dd H' → Wx cls dd σ H'
  | .stk => False
def PostT (o : Out Bool) (Q : Bool → Hp → Prop) : Prop := match o with
  | .ok b S' => ∀ W' H', Stp W H W' H' → SimS K W' S' H' → Q b H'
  | .rz ex S' => ∀ W' H' cls dd, Stp W H W' H' → SimS K W' S' H' → RepX K W' ex cls dd H' → Wx cls dd σ H'
  | .stk => False
def PostA (o : Out (List Dat)) (Q : List V → Hp → Prop) : Prop := match o with
  | .ok ds S' => ∀ W' H' vs, Stp W H W' H' → SimS K W' S' H' → RepVs K W' ds vs → Q vs H'
  | .rz ex S' => ∀ W' H' cls dd, Stp W H W' H' → SimS K W' S' H' → RepX K W' ex cls dd H' → Wx cls dd σ H'
  | .stk => False
def PostS (f : Flow) (D : Ends) : Prop := match f with
  | .nx env S => ∀ W' σ' H', Stp W H W' H' → SimE K W' env σ' → SimS K W' S H' → D.nx σ' H'
  | .bk env S => ∀ W' σ' H', Stp W H W' H' → SimE K W' env σ' → SimS K W' S H' → D.bk σ' H'
  | .ct env S => ∀ W' σ' H', Stp W H W' H' → SimE K W' env σ' → SimS K W' S H' → D.ct σ' H'
  | .rt d S => ∀ W' H' v, Stp W H W' H' → SimS K W' S H' → RepV K W' d v → D.rt v H'
  | .rz ex env S => ∀ W' σ' H' cls dd, Stp W H W' H' → SimE K W' env σ' → SimS K W' S H' → RepX K W' ex cls dd H' → Wx cls dd σ' H'
  | .stk => False
end
section
variable {K : PySem.W.Frag} {W W1 : Wd} {H H1 : Hp} {Wx : WX} {σ : St}
theorem PostE.mono {o : Out Dat} {Q : VK} (e : Stp W H W1 H1) (h : PostE K W H Wx σ o Q) : PostE K W1 H1 Wx σ o Q := by
  cases o with
  | ok d S => exact fun W2 H' v e2 => h W2 H' v (e.trans e2)
  | rz ex S => exact fun W2 H' cls dd e2 => h W2 H' cls dd (e.trans e2)
  | stk => exact h
theorem PostT.mono {o : Out Bool} {Q : Bool → Hp → Prop} (e : Stp W H W1 H1) (h : PostT K W H Wx σ o Q) : PostT K W1 H1 Wx σ o Q := by
  cases o with
  | ok d S => exact fun W2 H' e2 => h W2 H' (e.trans e2)
  | rz ex S => exact fun W2 H' cls dd e2 => h W2 H' cls dd (e.trans e2)
  | stk => exact h
theorem PostA.mono {o : Out (List Dat)} {Q : List V → Hp → Prop} (e : Stp W H W1 H1) (h : PostA K W H Wx σ o Q) : PostA K W1 H1 Wx σ o Q := by
  cases o with
  | ok d S => exact fun W2 H' v e2 => h W2 H' v (e.trans e2)
  | rz ex S => exact fun W2 H' cls dd e2 => h W2 H' cls dd (e.trans e2)
  | stk => exact h
theorem PostS.mono {f : Flow} {D : Ends} (e : Stp W H W1 H1) (h : PostS K W H Wx f D) : PostS K W1 H1 Wx f D := by
  cases f with
  | nx env S => exact fun W2 σ' H' e2 => h W2 σ' H' (e.trans e2)
  | bk env S => exact fun W2 σ' H' e2 => h W2 σ' H' (e.trans e2)
  | ct env S => exact fun W2 σ' H' e2 => h W2 σ' H' (e.trans e2)
  | rt d S => exact fun W2 H' v e2 => h W2 H' v (e.trans e2)
  | rz ex env S => exact fun W2 σ' H' cls dd e2 => h W2 σ' H' cls dd (e.trans e2)
  | stk => exact h
theorem PostE.imp {o : Out Dat} {Q Q' : VK} (h : PostE K W H Wx σ o Q) (k : ∀ d S W' H' v, o = .ok d S → Stp W H W' H' → SimS K W' S H' → RepV K W' d v → Q v H' → Q' v H') : PostE K W H Wx σ o Q' := by
  cases o with
  | ok d S => exact fun W2 H' v e2 s r => k d S W2 H' v rfl e2 s r (h W2 H' v e2 s r)
  | rz ex S => exact h
  | stk => exact h
end
/-! ### the canonical readings -/
def tE (K : PySem.W.Frag) (Wx : WX) (m : DE) : TE := fun σ H Q => ∃ env S W, SimE K W env σ ∧ SimS K W S H ∧ PostE K W H Wx σ (m env S) Q
def tT (K : PySem.W.Frag) (Wx : WX) (m : DT) : TT := fun σ H Q => ∃ env S W, SimE K W env σ ∧ SimS K W S H ∧ PostT K W H Wx σ (m env S) Q
def tA (K : PySem.W.Frag) (Wx : WX) (m : DA) : TA := fun σ H Q => ∃ env S W, SimE K W env σ ∧ SimS K W S H ∧ PostA K W H Wx σ (m env S) Q
def tS (K : PySem.W.Frag) (Wx : WX) (m : DS) : TS := fun D σ H => ∃ env S W, SimE K W env σ ∧ SimS K W S H ∧ PostS K W H Wx (m env S) D
abbrev JE (X : Cx) (Wx : WX) (e : Expr) (m : DE) : Prop := PE X e (tE X.K Wx m)
abbrev JT (X : Cx) (Wx : WX) (e : Expr) (m : DT) : Prop := PT X e (tT X.K Wx m)
abbrev JW (X : Cx) (Wx : WX) (e : Expr) (m : DT) : Prop := PW X e (tT X.K Wx m)
abbrev JA (X : Cx) (Wx : WX) (es : List Expr) (m : DA) : Prop := PA X es (tA X.K Wx m)
abbrev JS (X : Cx) (Wx : WX) (st : Stmt) (m : DS) : Prop := PS X st (tS X.K Wx m)
abbrev JSs (X : Cx) (Wx : WX) (st : List Stmt) (m : DS) : Prop := PSs X st (tS X.K Wx m)
section
variable {X : Cx} {Wx : WX}
theorem PE.weak {e : Expr} {t t' : TE} (h : PE X e t) (k : ∀ σ H Q, t' σ H Q → t σ H Q) : PE X e t' := ⟨fun pins s σ H Q I q => h.run pins s σ H Q I (k σ H Q q)⟩
theorem PT.weak {e : Expr} {t t' : TT} (h : PT X e t) (k : ∀ σ H Q, t' σ H Q → t σ H Q) : PT X e t' := ⟨fun pins s σ H Q I q => h.run pins s σ H Q I (k σ H Q q)⟩
theorem PW.weak {e : Expr} {t t' : TT} (h : PW X e t) (k : ∀ σ H Q, t' σ H Q → t σ H Q) : PW X e t' := ⟨fun wh pins s σ H Q I q => h.run wh pins s σ H Q I (k σ H Q q)⟩
theorem PA.weak {es : List Expr} {t t' : TA} (h : PA X es t) (k : ∀ σ H Q, t' σ H Q → t σ H Q) : PA X es t' := ⟨fun pos pins s σ H Q I q => h.run pos pins s σ H Q I (k σ H Q q)⟩
theorem PS.weak {st : Stmt} {t t' : TS} (h : PS X st t) (k : ∀ D σ H, t' D σ H → t D σ H) : PS X st t' := ⟨fun pins s σ H D I q => h.run pins s σ H D I (k D σ H q)⟩
theorem PSs.weak {st : List Stmt} {t t' : TS} (h : PSs X st t) (k : ∀ D σ H, t' D σ H → t D σ H) : PSs X st t' := ⟨fun pins s σ H D I q => h.run pins s σ H D I (k D σ H q)⟩

/-! ### names, constants -/
def mVar (i : Nat) : DE := fun env S => match env[i]? with
  | some (some d) => .ok d S
  | _ => .stk
def mC (d : Dat) : DE := fun _ S => .ok d S
theorem je_var (i : Nat) {x : Str} {pos : Pos} (hN : X.N[i]? = some x := by rfl) (hv : Vis X.env.scope x := by first | exact .inl rfl | exact .inr (.inl rfl) | exact .inr (.inr rfl)) (hd : (x == ("__debug__" : Str)) = false := by decide) (hcd : (x == ("__classdict__" : Str)) = false := by decide) : JE X Wx (.Name x pos) (mVar i) :=
  PE.weak (pe_var hN hv hd hcd) fun σ H Q ⟨env, S, W, hE, hS, q⟩ => by
    unfold mVar at q
    split at q
    · rename_i d e
      obtain ⟨v, h1, h2⟩ := hE.at_ i d e
      exact ⟨v, h1, q W H v .refl hS h2⟩
    · exact q.elim
theorem je_const {e : Expr} {d : Dat} {v : V} (h : PE X e (tC v)) (r : ∀ G, Rep X.K G d v) : JE X Wx e (mC d) :=
  PE.weak h fun _ H _ ⟨_, _, W, _, hS, q⟩ => q W H v .refl hS (.inr (r _))
theorem je_int {i j pos} : JE X Wx (.Constant (.int i) j pos) (mC (.int i)) := je_const pe_int fun _ => rfl
theorem je_bl {b j pos} : JE X Wx (.Constant (.bool b) j pos) (mC (.bl b)) := je_const pe_bl fun _ => rfl
theorem je_non {j pos} : JE X Wx (.Constant .none j pos) (mC .non) := je_const pe_non fun _ => rfl
theorem je_str {x j pos} : JE X Wx (.Constant (.str x) j pos) (mC (.str x)) := je_const pe_str fun _ => rfl
/-- a module's constant -/
theorem je_glob {x : Str} {d : Dat} {v : V} {u : Value} {pos : Pos} (hm : X.mg x = some u) (r : RelV v u) (rd : ∀ G, Rep X.K G d v) (hg : Gl X x := by rfl) (hd : (x == ("__debug__" : Str)) = false := by decide) : JE X Wx (.Name x pos) (mC d) :=
  je_const (pe_glob hg hm r hd) rd

/-! ### operators by values -/
/-- an operation on two data -/
def OpJ (X : Cx) (Wx : WX) (r : R2) (f : Dat → Dat → Sto → Out Dat) : Prop := ∀ (W : Wd) (S : Sto) (σ : St) (H : Hp) (x y : V) (a b : Dat) (Q : VK), SimS X.K W S H → RepV X.K W a x → RepV X.K W b y → PostE X.K W H Wx σ (f a b S) Q → r x y H Q
def mBin (f : Dat → Dat → Sto → Out Dat) (ma mb : DE) : DE := fun env S => (ma env S).bind fun a S1 => (mb env S1).bind fun b S2 => f a b S2
theorem tE_bin {K : PySem.W.Frag} {ma mb : DE} {σ : St} {H : Hp} {R : V → V → Hp → Prop} {env : Env} {S : Sto} {W : Wd} {f : Dat → Dat → Sto → Out Dat} {Q : VK} (hE : SimE K W env σ) (hS : SimS K W S H) (q : PostE K W H Wx σ (mBin f ma mb env S) Q)
    (hf : ∀ W' S' H' a b x y, Stp W H W' H' → SimS K W' S' H' → RepV K W' a x → RepV K W' b y → PostE K W' H' Wx σ (f a b S') Q → R x y H') :
    tE K Wx ma σ H fun x H1 => tE K Wx mb σ H1 fun y H2 => R x y H2 := by
  refine ⟨env, S, W, hE, hS, ?_⟩
  unfold mBin at q
  cases h1 : ma env S with
  | stk => rw [h1] at q; exact q.elim
  | rz ex S1 => rw [h1] at q; exact q
  | ok a S1 =>
    rw [h1] at q
    intro W1 H1 x e1 hS1 rx
    refine ⟨env, S1, W1, hE.mono e1.le, hS1, ?_⟩
    have q1 : PostE K W H Wx σ ((mb env S1).bind fun b S2 => f a b S2) Q := q
    cases h2 : mb env S1 with
    | stk => rw [h2] at q1; exact q1.elim
    | rz ex S2 => rw [h2] at q1; exact PostE.mono (o := .rz ex S2) (Q := Q) e1 q1
    | ok b S2 =>
      rw [h2] at q1
      have q2 : PostE K W H Wx σ (f a b S2) Q := q1
      intro W2 H2 y e2 hS2 ry
      exact hf W2 S2 H2 a b x y (e1.trans e2) hS2 (rx.mono e2.le) ry (q2.mono (e1.trans e2))
theorem je_op {op : Operator} {r : R2} {f} {a b : Expr} {ma mb : DE} {pos : Pos} (ho : OpR X (binaryOp op) r) (hf : OpJ X Wx r f) (ha : JE X Wx a ma) (hb : JE X Wx b mb) : JE X Wx (.BinOp a op b pos) (mBin f ma mb) :=
  PE.weak (pe_op ho ha hb) fun σ H Q ⟨_, _, _, hE, hS, q⟩ => tE_bin hE hS q fun W' S' H' a b x y _ s rx ry p => hf W' S' σ H' x y a b Q s rx ry p
theorem je_cmp {op : CmpOp} {r : R2} {f} {a b : Expr} {ma mb : DE} {pos : Pos} (ho : OpR X (compareOp op) r) (hf : OpJ X Wx r f) (ha : JE X Wx a ma) (hb : JE X Wx b mb) (hm : behindInMarks op b = false := by first | exact nomark _ | rfl) : JE X Wx (.Compare a [op] [b] pos) (mBin f ma mb) :=
  PE.weak (pe_cmpR ho ha hb hm) fun σ H Q ⟨_, _, _, hE, hS, q⟩ => tE_bin hE hS q fun W' S' H' a b x y _ s rx ry p => hf W' S' σ H' x y a b Q s rx ry p
/-- a bool, as a test's answer -/
def isB (o : Out Dat) : Out Bool := o.bind fun d S => match d with
  | .bl b => .ok b S
  | _ => .stk
/-- an expression that gives a bool, as a test -/
def mTest (m : DE) : DT := fun env S => isB (m env S)
theorem post_test {K : PySem.W.Frag} {W : Wd} {H : Hp} {σ : St} {o : Out Dat} {Q : Bool → Hp → Prop} (q : PostT K W H Wx σ (isB o) Q) : PostE K W H Wx σ o fun x H1 => ∃ c, x = .bl c ∧ Q c H1 := by
  cases o with
  | stk => exact q.elim
  | rz ex S => exact q
  | ok d S =>
    intro W' H' v e s r
    cases d with
    | bl b =>
      rcases r with ⟨l, a, h, _⟩ | r
      · cases h
      · exact ⟨b, r, q W' H' e s⟩
    | _ => exact q.elim
theorem jt_val {e : Expr} {m : DE} (h : JE X Wx e m) (he : ∀ whole, isTrue e X.env whole = (do let v ← whole; standAt e.pos; holding [v] (truthy v)) := by intro _; rfl) : JT X Wx e (mTest m) :=
  PT.weak (pt_val h he) fun σ H Q ⟨env, S, W, hE, hS, q⟩ => ⟨env, S, W, hE, hS, post_test q⟩
theorem jt_cmp {op : CmpOp} {r : R2} {f} {a b : Expr} {ma mb : DE} {pos : Pos} (ho : OpR X (compareOp op) r) (hf : OpJ X Wx r f) (ha : JE X Wx a ma) (hb : JE X Wx b mb) (hm : behindInMarks op b = false := by first | exact nomark _ | rfl) : JT X Wx (.Compare a [op] [b] pos) (mTest (mBin f ma mb)) :=
  PT.weak (pt_cmpR ho ha hb hm) fun σ H Q ⟨_, _, _, hE, hS, q⟩ => tE_bin hE hS (post_test q) fun W' S' H' a b x y _ s rx ry p => hf W' S' σ H' x y a b _ s rx ry p
/-! ### and, or, not, if -/
def dAnd (ma mb : DT) : DT := fun env S => (ma env S).bind fun c S1 => if c = true then mb env S1 else .ok false S1
def dOr (ma mb : DT) : DT := fun env S => (ma env S).bind fun c S1 => if c = true then .ok true S1 else mb env S1
def dNot (ma : DT) : DT := fun env S => (ma env S).bind fun c S1 => .ok (!c) S1
theorem tT_bind {K : PySem.W.Frag} {ma : DT} {σ : St} {H : Hp} {env : Env} {S : Sto} {W : Wd} {g : Bool → Sto → Out Bool} {Q : Bool → Hp → Prop} {R : Bool → Hp → Prop} (hE : SimE K W env σ) (hS : SimS K W S H) (q : PostT K W H Wx σ ((ma env S).bind g) Q)
    (k : ∀ c S1 W1 H1, Stp W H W1 H1 → SimS K W1 S1 H1 → PostT K W1 H1 Wx σ (g c S1) Q → R c H1) : tT K Wx ma σ H R := by
  refine ⟨env, S, W, hE, hS, ?_⟩
  cases h : ma env S with
  | stk => rw [h] at q; exact q.elim
  | rz ex S1 => rw [h] at q; exact q
  | ok c S1 =>
    rw [h] at q
    exact fun W1 H1 e1 s1 => k c S1 W1 H1 e1 s1 (PostT.mono (o := g c S1) e1 q)
theorem jw_and1 {a : Expr} {m : DT} {pos : Pos} (h : JT X Wx a m) : JW X Wx (.BoolOp .And [a] pos) m := pw_and1 h
theorem jw_or1 {a : Expr} {m : DT} {pos : Pos} (h : JT X Wx a m) : JW X Wx (.BoolOp .Or [a] pos) m := pw_or1 h
theorem jw_and {a b : Expr} {rest : List Expr} {pos : Pos} {ma mb : DT} (ha : JT X Wx a ma) (hb : JW X Wx (.BoolOp .And (b :: rest) pos) mb) : JW X Wx (.BoolOp .And (a :: b :: rest) pos) (dAnd ma mb) :=
  PW.weak (pw_and ha hb) fun σ H Q ⟨env, S, W, hE, hS, q⟩ => tT_bind hE hS q fun c S1 W1 H1 e1 s1 q1 => by
    cases c with
    | true => exact ⟨env, S1, W1, hE.mono e1.le, s1, q1⟩
    | false => exact q1 W1 H1 .refl s1
theorem jw_or {a b : Expr} {rest : List Expr} {pos : Pos} {ma mb : DT} (ha : JT X Wx a ma) (hb : JW X Wx (.BoolOp .Or (b :: rest) pos) mb) : JW X Wx (.BoolOp .Or (a :: b :: rest) pos) (dOr ma mb) :=
  PW.weak (pw_or ha hb) fun σ H Q ⟨env, S, W, hE, hS, q⟩ => tT_bind hE hS q fun c S1 W1 H1 e1 s1 q1 => by
    cases c with
    | false => exact ⟨env, S1, W1, hE.mono e1.le, s1, q1⟩
    | true => exact q1 W1 H1 .refl s1
theorem jt_bool {e : Expr} {m : DT} (h : JW X Wx e m) : JT X Wx e m := PW.pt h
theorem jt_not {a : Expr} {pos : Pos} {m : DT} (h : JT X Wx a m) : JT X Wx (.UnaryOp .Not a pos) (dNot m) :=
  PT.weak (pt_not h) fun σ H Q ⟨env, S, W, hE, hS, q⟩ => tT_bind hE hS q fun c S1 W1 H1 e1 s1 q1 => q1 W1 H1 .refl s1
/-- and, or, not as values: bools -/
def mAnd (ma mb : DE) : DE := fun env S => (ma env S).bind fun c S1 => match c with
  | .bl true => mb env S1
  | .bl false => .ok (.bl false) S1
  | _ => .stk
def mOr (ma mb : DE) : DE := fun env S => (ma env S).bind fun c S1 => match c with
  | .bl true => .ok (.bl true) S1
  | .bl false => mb env S1
  | _ => .stk
def mNot (ma : DE) : DE := fun env S => (ma env S).bind fun c S1 => match c with
  | .bl b => .ok (.bl (!b)) S1
  | _ => .stk
theorem tE_bind {K : PySem.W.Frag} {ma : DE} {σ : St} {H : Hp} {env : Env} {S : Sto} {W : Wd} {g : Dat → Sto → Out Dat} {Q : VK} {R : VK} (hE : SimE K W env σ) (hS : SimS K W S H) (q : PostE K W H Wx σ ((ma env S).bind g) Q)
    (k : ∀ d S1 W1 H1 v, Stp W H W1 H1 → SimS K W1 S1 H1 → RepV K W1 d v → PostE K W1 H1 Wx σ (g d S1) Q → R v H1) : tE K Wx ma σ H R := by
  refine ⟨env, S, W, hE, hS, ?_⟩
  cases h : ma env S with
  | stk => rw [h] at q; exact q.elim
  | rz ex S1 => rw [h] at q; exact q
  | ok c S1 =>
    rw [h] at q
    exact fun W1 H1 v e1 s1 r => k c S1 W1 H1 v e1 s1 r (PostE.mono (o := g c S1) e1 q)
theorem RepV.bl {K : PySem.W.Frag} {W : Wd} {b : Bool} {v : V} (h : RepV K W (.bl b) v) : v = .bl b := by
  rcases h with ⟨_, _, h, _⟩ | h
  · cases h
  · exact h
theorem RepV.int {K : PySem.W.Frag} {W : Wd} {b : Int} {v : V} (h : RepV K W (.int b) v) : v = .int b := by
  rcases h with ⟨_, _, h, _⟩ | h
  · cases h
  · exact h
theorem RepV.str {K : PySem.W.Frag} {W : Wd} {b : Str} {v : V} (h : RepV K W (.str b) v) : v = .str b := by
  rcases h with ⟨_, _, h, _⟩ | h
  · cases h
  · exact h
theorem RepV.non {K : PySem.W.Frag} {W : Wd} {v : V} (h : RepV K W .non v) : v = .non := by
  rcases h with ⟨_, _, h, _⟩ | h
  · cases h
  · exact h
theorem RepV.cell {K : PySem.W.Frag} {W : Wd} {l : Nat} {v : V} (h : RepV K W (.cell l) v) : ∃ a, W.cs[l]? = some a ∧ v = .ref a := by
  rcases h with ⟨l', a, h, h2, h3⟩ | h
  · cases h; exact ⟨a, h2, h3⟩
  · exact h.elim
theorem RepV.lstM {K : PySem.W.Frag} {W : Wd} {ds : List Dat} {v : V} (h : RepV K W (.lst ds) v) : ∃ a xs, v = .ref a ∧ W.G a = some (.lst xs) ∧ Reps K W.G ds xs := by
  rcases h with ⟨_, _, h, _⟩ | h
  · cases h
  · exact h
theorem RepV.lst {K : PySem.W.Frag} {W : Wd} {ds : List Dat} {v : V} (h : RepV K W (.lst ds) v) : ∃ a xs, v = .ref a ∧ SqL K W.G a xs ∧ Reps K W.G ds xs := by
  obtain ⟨a, xs, h1, h2, h3⟩ := h.lstM
  exact ⟨a, xs, h1, .inl (.inl h2), h3⟩
theorem RepV.tup {K : PySem.W.Frag} {W : Wd} {ds : List Dat} {v : V} (h : RepV K W (.tup ds) v) : ∃ a xs, v = .ref a ∧ SqT K W.G a xs ∧ Reps K W.G ds xs := by
  rcases h with ⟨_, _, h, _⟩ | h
  · cases h
  · exact h
theorem RepV.dct {K : PySem.W.Frag} {W : Wd} {es : List (Key × Dat)} {v : V} (h : RepV K W (.dct es) v) : ∃ a kvs, v = .ref a ∧ Rd W.G a (.dK kvs) ∧ RepK K W.G es kvs := by
  rcases h with ⟨_, _, h, _⟩ | h
  · cases h
  · exact h
theorem RepV.ins {K : PySem.W.Frag} {W : Wd} {C : Str} {gs : List (Str × Dat)} {v : V} (h : RepV K W (.ins C gs) v) : ∃ a dx fs, v = .ref a ∧ W.G a = some (.ins (He.ga K C) dx fs) ∧ RepF K W.G gs fs := by
  rcases h with ⟨_, _, h, _⟩ | h
  · cases h
  · exact h
theorem je_one {a : Expr} {op} {m : DE} {pos : Pos} (h : JE X Wx a m) : JE X Wx (.BoolOp op [a] pos) m := pe_one h
theorem je_and {a b : Expr} {rest : List Expr} {pos : Pos} {ma mb : DE} (ha : JE X Wx a ma) (hb : JE X Wx (.BoolOp .And (b :: rest) pos) mb) : JE X Wx (.BoolOp .And (a :: b :: rest) pos) (mAnd ma mb) :=
  PE.weak (pe_and ha hb) fun σ H Q ⟨env, S, W, hE, hS, q⟩ => tE_bind hE hS q fun d S1 W1 H1 v e1 s1 r q1 => by
    cases d with
    | bl c =>
      cases r.bl
      refine ⟨c, rfl, ?_⟩
      cases c with
      | true => exact ⟨env, S1, W1, hE.mono e1.le, s1, q1⟩
      | false => exact q1 W1 H1 _ .refl s1 (.inr rfl)
    | _ => exact q1.elim
theorem je_or {a b : Expr} {rest : List Expr} {pos : Pos} {ma mb : DE} (ha : JE X Wx a ma) (hb : JE X Wx (.BoolOp .Or (b :: rest) pos) mb) : JE X Wx (.BoolOp .Or (a :: b :: rest) pos) (mOr ma mb) :=
  PE.weak (pe_or ha hb) fun σ H Q ⟨env, S, W, hE, hS, q⟩ => tE_bind hE hS q fun d S1 W1 H1 v e1 s1 r q1 => by
    cases d with
    | bl c =>
      cases r.bl
      refine ⟨c, rfl, ?_⟩
      cases c with
      | false => exact ⟨env, S1, W1, hE.mono e1.le, s1, q1⟩
      | true => exact q1 W1 H1 _ .refl s1 (.inr rfl)
    | _ => exact q1.elim
theorem je_not {a : Expr} {pos : Pos} {m : DE} (h : JE X Wx a m) : JE X Wx (.UnaryOp .Not a pos) (mNot m) :=
  PE.weak (pe_not h) fun σ H Q ⟨env, S, W, hE, hS, q⟩ => tE_bind hE hS q fun d S1 W1 H1 v e1 s1 r q1 => by
    cases d with
    | bl c =>
      cases r.bl
      exact ⟨c, rfl, q1 W1 H1 _ .refl s1 (.inr rfl)⟩
    | _ => exact q1.elim
def mIf (t : DT) (ma mb : DE) : DE := fun env S => (t env S).bind fun c S1 => if c = true then ma env S1 else mb env S1
theorem tT_bindE {K : PySem.W.Frag} {ma : DT} {σ : St} {H : Hp} {env : Env} {S : Sto} {W : Wd} {g : Bool → Sto → Out Dat} {Q : VK} {R : Bool → Hp → Prop} (hE : SimE K W env σ) (hS : SimS K W S H) (q : PostE K W H Wx σ ((ma env S).bind g) Q)
    (k : ∀ c S1 W1 H1, Stp W H W1 H1 → SimS K W1 S1 H1 → PostE K W1 H1 Wx σ (g c S1) Q → R c H1) : tT K Wx ma σ H R := by
  refine ⟨env, S, W, hE, hS, ?_⟩
  cases h : ma env S with
  | stk => rw [h] at q; exact q.elim
  | rz ex S1 => rw [h] at q; exact q
  | ok c S1 =>
    rw [h] at q
    exact fun W1 H1 e1 s1 => k c S1 W1 H1 e1 s1 (PostE.mono (o := g c S1) e1 q)
theorem je_if {c a b : Expr} {pos : Pos} {t : DT} {ma mb : DE} (hc : JT X Wx c t) (ha : JE X Wx a ma) (hb : JE X Wx b mb) : JE X Wx (.IfExp c a b pos) (mIf t ma mb) :=
  PE.weak (pe_ifExp hc ha hb) fun σ H Q ⟨env, S, W, hE, hS, q⟩ => tT_bindE hE hS q fun c S1 W1 H1 e1 s1 q1 => by
    cases c with
    | true => exact ⟨env, S1, W1, hE.mono e1.le, s1, q1⟩
    | false => exact ⟨env, S1, W1, hE.mono e1.le, s1, q1⟩
/-! ### argument lists -/
def mNil : DA := fun _ S => .ok [] S
def mCons (m : DE) (r : DA) : DA := fun env S => (m env S).bind fun d S1 => (r env S1).bind fun ds S2 => .ok (d :: ds) S2
theorem ja_nil : JA X Wx [] mNil := PA.weak pa_nil fun _ H _ ⟨_, _, W, _, hS, q⟩ => q W H [] .refl hS rfl
theorem ja_cons {e : Expr} {es : List Expr} {m : DE} {r : DA} (h : JE X Wx e m) (hr : JA X Wx es r) (hs : starEach (e :: es) X.env = (false, eval e X.env) :: starEach es X.env := by rfl) : JA X Wx (e :: es) (mCons m r) :=
  PA.weak (pa_cons h hr hs) fun σ H Q ⟨env, S, W, hE, hS, q⟩ => by
    refine ⟨env, S, W, hE, hS, ?_⟩
    unfold mCons at q
    cases h1 : m env S with
    | stk => rw [h1] at q; exact q.elim
    | rz ex S1 => rw [h1] at q; exact q
    | ok a S1 =>
      rw [h1] at q
      intro W1 H1 x e1 hS1 rx
      refine ⟨env, S1, W1, hE.mono e1.le, hS1, ?_⟩
      have q1 : PostA X.K W H Wx σ ((r env S1).bind fun ds S2 => .ok (a :: ds) S2) Q := q
      cases h2 : r env S1 with
      | stk => rw [h2] at q1; exact q1.elim
      | rz ex S2 => rw [h2] at q1; exact PostA.mono (o := .rz ex S2) (Q := Q) e1 q1
      | ok b S2 =>
        rw [h2] at q1
        intro W2 H2 y e2 hS2 ry
        exact q1 W2 H2 (x :: y) (e1.trans e2) hS2 ⟨x, y, rfl, rx.mono e2.le, ry⟩
end
end JL
/-! J2: statements, loops, defs and their calls. -/
namespace JL
open PySem PySem.Spec L2

/-- what is known of the place where a piece of a body stands -/
structure Ctx (X : Cx) (Wx : WX) (k : Nat) : Prop where
  tk : Takes X Wx
  po : PassesOwn (model X.prog X.w) X.A X.env X.xe
  cm : X.calm = true
  hr : Room k X.A
  nd : X.N.Nodup
theorem Ctx.mono {X : Cx} {Wx : WX} {j k : Nat} (c : Ctx X Wx k) (h : j ≤ k) : Ctx X Wx j := ⟨c.tk, c.po, c.cm, c.hr.mono h, c.nd⟩
section
variable {X : Cx} {Wx : WX}
/-! ### blocks -/
def sSkip : DS := fun env S => .nx env S
def sSeq (m r : DS) : DS := fun env S => match m env S with
  | .nx env' S' => r env' S'
  | f => f
theorem js_nil : JSs X Wx [] sSkip := PSs.weak pss_nil fun D σ H ⟨env, S, W, hE, hS, q⟩ => q W σ H .refl hE hS
theorem js_cons {st : Stmt} {rest : List Stmt} {m r : DS} (h : JS X Wx st m) (hr : JSs X Wx rest r) : JSs X Wx (st :: rest) (sSeq m r) :=
  PSs.weak (pss_cons h hr) fun D σ H ⟨env, S, W, hE, hS, q⟩ => by
    refine ⟨env, S, W, hE, hS, ?_⟩
    unfold sSeq at q
    cases h1 : m env S with
    | nx e1 S1 =>
      rw [h1] at q
      exact fun W' σ' H' e hE' hS' => ⟨e1, S1, W', hE', hS', PostS.mono e q⟩
    | bk e1 S1 => rw [h1] at q; exact q
    | ct e1 S1 => rw [h1] at q; exact q
    | rt d S1 => rw [h1] at q; exact q
    | rz ex e1 S1 => rw [h1] at q; exact q
    | stk => rw [h1] at q; exact q
theorem js_one {st : Stmt} {m : DS} (h : JS X Wx st m) : JSs X Wx [st] m := pss_one h
def sBreak : DS := fun env S => .bk env S
def sCont : DS := fun env S => .ct env S
theorem js_pass {pos} : JS X Wx (.Pass pos) sSkip := PS.weak ps_pass fun D σ H ⟨env, S, W, hE, hS, q⟩ => q W σ H .refl hE hS
theorem js_break {pos} : JS X Wx (.Break pos) sBreak := PS.weak ps_break fun D σ H ⟨env, S, W, hE, hS, q⟩ => q W σ H .refl hE hS
theorem js_continue {pos} : JS X Wx (.Continue pos) sCont := PS.weak ps_continue fun D σ H ⟨env, S, W, hE, hS, q⟩ => q W σ H .refl hE hS
def ofE (env : Env) (o : Out Dat) (k : Dat → Sto → Flow) : Flow := match o with
  | .ok d S => k d S
  | .rz ex S => .rz ex env S
  | .stk => .stk
def ofT (env : Env) (o : Out Bool) (k : Bool → Sto → Flow) : Flow := match o with
  | .ok d S => k d S
  | .rz ex S => .rz ex env S
  | .stk => .stk
theorem post_ofE {K : PySem.W.Frag} {W : Wd} {H : Hp} {σ : St} {env : Env} {o : Out Dat} {k : Dat → Sto → Flow} {D : Ends} {R : VK} (hE : SimE K W env σ) (q : PostS K W H Wx (ofE env o k) D)
    (hk : ∀ d S1 W1 H1 v, Stp W H W1 H1 → SimS K W1 S1 H1 → RepV K W1 d v → PostS K W1 H1 Wx (k d S1) D → R v H1) : PostE K W H Wx σ o R := by
  cases o with
  | ok d S => exact fun W1 H1 v e s r => hk d S W1 H1 v e s r (PostS.mono (f := k d S) e q)
  | rz ex S => exact fun W1 H1 cls dd e s r => q W1 σ H1 cls dd e (hE.mono e.le) s r
  | stk => exact q
theorem post_ofT {K : PySem.W.Frag} {W : Wd} {H : Hp} {σ : St} {env : Env} {o : Out Bool} {k : Bool → Sto → Flow} {D : Ends} {R : Bool → Hp → Prop} (hE : SimE K W env σ) (q : PostS K W H Wx (ofT env o k) D)
    (hk : ∀ d S1 W1 H1, Stp W H W1 H1 → SimS K W1 S1 H1 → PostS K W1 H1 Wx (k d S1) D → R d H1) : PostT K W H Wx σ o R := by
  cases o with
  | ok d S => exact fun W1 H1 e s => hk d S W1 H1 e s (PostS.mono (f := k d S) e q)
  | rz ex S => exact fun W1 H1 cls dd e s r => q W1 σ H1 cls dd e (hE.mono e.le) s r
  | stk => exact q
def sDrop (m : DE) : DS := fun env S => ofE env (m env S) fun _ S1 => .nx env S1
theorem js_expr {e : Expr} {m : DE} {pos : Pos} (h : JE X Wx e m) (hs : swapsWith e none pos.line X.env = pure false := by rfl) : JS X Wx (.Expr e pos) (sDrop m) :=
  PS.weak (ps_expr h hs) fun D σ H ⟨env, S, W, hE, hS, q⟩ => ⟨env, S, W, hE, hS, post_ofE hE q fun d S1 W1 H1 v e s r q1 => q1 W1 σ H1 .refl (hE.mono e.le) s⟩
def sRet (m : DE) : DS := fun env S => ofE env (m env S) fun d S1 => .rt d S1
theorem js_ret {e : Expr} {m : DE} {pos : Pos} (h : JE X Wx e m) : JS X Wx (.Return (some e) pos) (sRet m) :=
  PS.weak (ps_ret h) fun D σ H ⟨env, S, W, hE, hS, q⟩ => ⟨env, S, W, hE, hS, post_ofE hE q fun d S1 W1 H1 v e s r q1 => q1 W1 H1 v .refl s r⟩
def sRetN : DS := fun _ S => .rt .non S
theorem js_retN {pos : Pos} : JS X Wx (.Return none pos) sRetN :=
  PS.weak ps_retN fun D σ H ⟨env, S, W, hE, hS, q⟩ => q W H .non .refl hS (.inr rfl)
def sIf (t : DT) (a b : DS) : DS := fun env S => ofT env (t env S) fun c S1 => if c = true then a env S1 else b env S1
theorem js_if {c : Expr} {a b : List Stmt} {t : DT} {ma mb : DS} {pos : Pos} (hc : JT X Wx c t) (ha : JSs X Wx a ma) (hb : JSs X Wx b mb) : JS X Wx (.If c a b pos) (sIf t ma mb) :=
  PS.weak (ps_if hc ha hb) fun D σ H ⟨env, S, W, hE, hS, q⟩ => ⟨env, S, W, hE, hS, post_ofT hE q fun d S1 W1 H1 e s q1 => by
    cases d with
    | true => exact ⟨env, S1, W1, hE.mono e.le, s, q1⟩
    | false => exact ⟨env, S1, W1, hE.mono e.le, s, q1⟩⟩
/-! ### targets -/
abbrev DG := Dat → Env → Option Env
/-- alike but at the places L -/
def Off (L : List Nat) (σ σ' : St) : Prop := σ'.length = σ.length ∧ ∀ i, i ∉ L → σ'[i]? = σ[i]?
theorem Off.refl {L : List Nat} {σ : St} : Off L σ σ := ⟨rfl, fun _ _ => rfl⟩
theorem Off.trans {L M : List Nat} {a b c : St} (h : Off L a b) (k : Off M b c) : Off (L ++ M) a c := ⟨k.1.trans h.1, fun i hi => (k.2 i fun z => hi (List.mem_append_right _ z)).trans (h.2 i fun z => hi (List.mem_append_left _ z))⟩
def tG (K : PySem.W.Frag) (L : List Nat) (g : DG) : TG := fun v σ H Q => ∃ env env' S W d, SimE K W env σ ∧ SimS K W S H ∧ RepV K W d v ∧ g d env = some env' ∧ ∀ σ', SimE K W env' σ' → Off L σ σ' → Q σ' H
abbrev JG (X : Cx) (tg : Expr) (L : List Nat) (g : DG) : Prop := PG X tg (tG X.K L g)
theorem PG.weak {tg : Expr} {t t' : TG} (h : PG X tg t) (k : ∀ v σ H Q, t' v σ H Q → t v σ H Q) : PG X tg t' := ⟨fun pins s σ H v u Q I r q => h.run pins s σ H v u Q I r (k v σ H Q q)⟩
theorem PGs.weak {tg : List Expr} {t t' : TGs} (h : PGs X tg t) (k : ∀ v σ H Q, t' v σ H Q → t v σ H Q) : PGs X tg t' := ⟨fun pins s σ H v u Q I r q => h.run pins s σ H v u Q I r (k v σ H Q q)⟩
def gN (i : Nat) : DG := fun d env => some (env.set i (some d))
theorem jg_name {k : Nat} (c : Ctx X Wx k) (i : Nat) {x : Str} {pos : Pos} (hi : X.N[i]? = some x := by rfl) (hx : Loc X.env.scope x := by first | exact .inl rfl | exact .inr rfl) (hf : X.fn x = true ∨ X.env.scope.names.lookup x = some .local := by first | exact .inl rfl | exact .inr rfl | assumption) : JG X (.Name x pos) [i] (gN i) :=
  PG.weak (pg_name c.nd hi hx hf) fun v σ H Q ⟨env, env', S, W, d, hE, hS, r, e, k⟩ => k _ (by
    cases e
    exact hE.set r i) ⟨List.length_set, fun j hj => List.getElem?_set_ne (fun z => hj (by rw [z]; exact List.mem_singleton.mpr rfl))⟩
abbrev DGs := List Dat → Env → Option Env
def tGs (K : PySem.W.Frag) (L : List Nat) (g : DGs) : TGs := fun vs σ H Q => ∃ env env' S W ds, SimE K W env σ ∧ SimS K W S H ∧ RepVs K W ds vs ∧ g ds env = some env' ∧ ∀ σ', SimE K W env' σ' → Off L σ σ' → Q σ' H
abbrev JGs (X : Cx) (tg : List Expr) (L : List Nat) (g : DGs) : Prop := PGs X tg (tGs X.K L g)
def gZ : DGs := fun ds env => match ds with
  | [] => some env
  | _ => none
def gC (g : DG) (r : DGs) : DGs := fun ds env => match ds with
  | d :: ds => (g d env).bind fun e1 => r ds e1
  | [] => none
theorem jgs_nil : JGs X [] [] gZ := PGs.weak pgs_nil fun vs σ H Q ⟨env, env', S, W, ds, hE, hS, r, e, k⟩ => by
  cases ds with
  | nil =>
    cases r
    cases e
    exact ⟨rfl, k σ hE .refl⟩
  | cons _ _ => cases e
theorem jgs_cons {e : Expr} {es : List Expr} {L M : List Nat} {g : DG} {gr : DGs} (h : JG X e L g) (hr : JGs X es M gr) (hs : (assignEach (e :: es) X.env).map (·.2) = assign e X.env :: (assignEach es X.env).map (·.2) := by rfl) : JGs X (e :: es) (L ++ M) (gC g gr) :=
  PGs.weak (pgs_cons h hr hs) fun vs σ H Q ⟨env, env', S, W, ds, hE, hS, r, e, k⟩ => by
    cases ds with
    | nil => cases e
    | cons d ds =>
      obtain ⟨x, xs, rfl, rx, rr⟩ := r
      have e' : (g d env).bind (fun e1 => gr ds e1) = some env' := e
      cases h1 : g d env with
      | none => rw [h1] at e'; cases e'
      | some e1 =>
        rw [h1] at e'
        exact ⟨x, xs, rfl, env, e1, S, W, d, hE, hS, rx, h1, fun σ1 hE1 o1 => ⟨e1, env', S, W, ds, hE1, hS, rr, e', fun σ2 hE2 o2 => k σ2 hE2 (o1.trans o2)⟩⟩
def gT (g : DGs) : DG := fun d env => match d with
  | .tup ds => g ds env
  | _ => none
theorem Reps.vs {K : PySem.W.Frag} {W : Wd} : ∀ {ds : List Dat} {xs : List V}, Reps K W.G ds xs → RepVs K W ds xs
  | [], _, h => h
  | _ :: _, _, ⟨x, r, e, h, t⟩ => ⟨x, r, e, .inr h, Reps.vs t⟩
theorem Reps.length {K : PySem.W.Frag} {G : Hp} : ∀ {ds : List Dat} {xs : List V}, Reps K G ds xs → xs.length = ds.length
  | [], _, h => by cases h; rfl
  | _ :: _, _, ⟨x, r, e, h, t⟩ => by rw [e, List.length_cons, List.length_cons, Reps.length t]
/-- the lengths that a target list takes -/
def DGs.fits (g : DGs) (n : Nat) : Prop := ∀ ds env env', g ds env = some env' → ds.length = n
theorem fits_nil : DGs.fits gZ 0 := fun ds env env' h => by
  cases ds with
  | nil => rfl
  | cons _ _ => cases h
theorem fits_cons {g : DG} {r : DGs} {n : Nat} (h : DGs.fits r n) : DGs.fits (gC g r) (n + 1) := fun ds env env' e => by
  cases ds with
  | nil => cases e
  | cons d ds =>
    have e' : (g d env).bind (fun e1 => r ds e1) = some env' := e
    cases h1 : g d env with
    | none => rw [h1] at e'; cases e'
    | some e1 =>
      rw [h1] at e'
      rw [List.length_cons, h _ _ _ e']
theorem jg_tup {k n : Nat} (c : Ctx X Wx k) {es : List Expr} {kk : Nat} {L : List Nat} {g : DGs} {pos : Pos} (h : JGs X es L g) (hf : DGs.fits g n) (hn : (assignEach es X.env).length = n := by rfl) (hst : (assignEach es X.env).findIdx? (·.1) = none := by rfl) : JG X (.Tuple es kk pos) L (gT g) :=
  PG.weak (pg_tup c.cm h hn hst) fun v σ H Q ⟨env, env', S, W, d, hE, hS, r, e, k⟩ => by
    cases d with
    | tup ds =>
      obtain ⟨a, xs, rfl, hx, rr⟩ := r.tup
      exact ⟨a, xs, rfl, hS.t hx, by rw [rr.length]; exact hf _ _ _ e, env, env', S, W, ds, hE, hS, rr.vs, e, k⟩
    | _ => cases e
/-! ### assignment -/
def sAsg (g : DG) (m : DE) : DS := fun env S => ofE env (m env S) fun d S1 => match g d env with
  | some env' => .nx env' S1
  | none => .stk
theorem js_asg {tg e : Expr} {m : DE} {L : List Nat} {g : DG} {pos : Pos} (hg : JG X tg L g) (h : JE X Wx e m) (hs : swapsWithSole [tg] e pos.line X.env = pure false := by rfl) (hw : swappedStores [tg] e X.env = pure none := by rfl) (h1 : (assignEach [tg] X.env).map (·.2) = [assign tg X.env] := by rfl) :
    JS X Wx (.Assign [tg] e pos) (sAsg g m) :=
  PS.weak (ps_asg h hg hs hw h1) fun D σ H ⟨env, S, W, hE, hS, q⟩ => ⟨env, S, W, hE, hS, post_ofE hE q fun d S1 W1 H1 v e s r q1 => by
    cases h2 : g d env with
    | none => rw [h2] at q1; exact q1.elim
    | some env' =>
      rw [h2] at q1
      exact ⟨env, env', S1, W1, d, hE.mono e.le, s, r, h2, fun σ' hE' _ => q1 W1 σ' H1 .refl hE' s⟩⟩
def sSet (i : Nat) (m : DE) : DS := fun env S => ofE env (m env S) fun d S1 => .nx (env.set i (some d)) S1
theorem js_set {k : Nat} (c : Ctx X Wx k) (i : Nat) {x : Str} {e : Expr} {m : DE} {pos pos' : Pos} (h : JE X Wx e m) (hi : X.N[i]? = some x := by rfl) (hx : Loc X.env.scope x := by first | exact .inl rfl | exact .inr rfl) (hs : swapsWith e (some (.Name x pos')) pos.line X.env = pure false := by rfl)
    (hf : X.fn x = true ∨ X.env.scope.names.lookup x = some .local := by first | exact .inl rfl | exact .inr rfl | assumption) : JS X Wx (.Assign [.Name x pos'] e pos) (sSet i m) :=
  PS.weak (ps_set c.nd hi hx h hs hf) fun D σ H ⟨env, S, W, hE, hS, q⟩ => ⟨env, S, W, hE, hS, post_ofE hE q fun d S1 W1 H1 v e s r q1 => q1 W1 _ H1 .refl ((hE.mono e.le).set r i) s⟩
/-! ### for -/
def forL (g : DG) (body : DS) : List Dat → DS
  | [] => fun env S => .nx env S
  | d :: ds => fun env S => match g d env with
    | none => .stk
    | some e1 => match body e1 S with
      | .nx e2 S2 => forL g body ds e2 S2
      | .ct e2 S2 => forL g body ds e2 S2
      | .bk e2 S2 => .nx e2 S2
      | .rt d S2 => .rt d S2
      | .rz ex e2 S2 => .rz ex e2 S2
      | .stk => .stk
theorem RepVs.one {K : PySem.W.Frag} {W : Wd} {d : Dat} {vs : List V} (h : RepVs K W [d] vs) : ∃ v, vs = [v] ∧ RepV K W d v := by
  obtain ⟨x, r, e, h1, h2⟩ := h
  cases h2
  exact ⟨x, e, h1⟩
theorem RepVs.two {K : PySem.W.Frag} {W : Wd} {d d' : Dat} {vs : List V} (h : RepVs K W [d, d'] vs) : ∃ v w, vs = [v, w] ∧ RepV K W d v ∧ RepV K W d' w := by
  obtain ⟨x, r, e, h1, h2⟩ := h
  obtain ⟨y, e2, h3⟩ := RepVs.one h2
  exact ⟨x, y, by rw [e, e2], h1, h3⟩
end
/-! ### defs -/
/-- what a def's end leaves: of a result that is no cell, the cells of the def's own are forgotten -/
def mEnd (n : Nat) (d : Dat) (S : Sto) : Out Dat := match d with
  | .cell l => .ok (.cell l) S
  | d => .ok d (S.take n)
def mFn (N : Nat) (body : DS) : Fn := fun ds S => match body (ds.map some ++ List.replicate (N - ds.length) none) S with
  | .nx _ S1 => .ok .non (S1.take S.length)
  | .rt d S1 => mEnd S.length d S1
  | .rz ex _ S1 => .rz ex (S1.take S.length)
  | _ => .stk
/-- a def's promise, by its meaning -/
def spM (K : PySem.W.Frag) (m : Fn) : Sp := fun vs H Q E => ∃ W S ds, SimS K W S H ∧ RepVs K W ds vs ∧ PostE K W H (fun c d _ H => E c d H) [] (m ds S) Q
theorem SimS.take {K : PySem.W.Frag} {W W' : Wd} {S S' : Sto} {H H' : Hp} (h : SimS K W S H) (e : Stp W H W' H') (s : SimS K W' S' H') : SimS K ⟨W'.G, W.cs⟩ (S'.take S.length) H' := by
  obtain ⟨e1, r, e2⟩ := e.le
  refine ⟨s.sub, ?_, ?_, fun l d hl => ?_, fun a ha => s.trk a (by rw [e2]; exact List.mem_append_left _ ha)⟩
  · rw [List.length_take, s.len, h.len, e2, List.length_append]
    show min _ _ = W.cs.length
    omega
  · have nd := s.nd
    rw [e2] at nd
    exact (List.nodup_append.mp nd).1
  · have hlt : l < W.cs.length := by
      have := (List.getElem?_eq_some_iff.mp hl).1
      rw [List.length_take] at this
      rw [← h.len]
      omega
    rw [List.getElem?_take_of_lt (by rw [h.len]; exact hlt)] at hl
    obtain ⟨a, o, h1, h2, h3, h4⟩ := s.cel l d hl
    rw [e2, List.getElem?_append_left hlt] at h1
    exact ⟨a, o, h1, h2, h3, h4⟩
theorem Stp.shut {W W' : Wd} {H H' : Hp} (e : Stp W H W' H') : Stp W H ⟨W'.G, W.cs⟩ H' := ⟨⟨e.le.G, [], by simp⟩, fun a o h g k => ⟨(e.kp a o h g k).1, (e.kp a o h g k).2.1, k⟩⟩
theorem SimE.start {K : PySem.W.Frag} {W : Wd} : ∀ {ds : List Dat} {vs : List V} (n : Nat), RepVs K W ds vs → SimE K W (ds.map some ++ List.replicate n none) (vs.map some ++ List.replicate n none) := fun {ds vs} n h => by
  refine ⟨by rw [List.length_append, List.length_append, List.length_map, List.length_map, h.length, List.length_replicate, List.length_replicate], fun i d e => ?_⟩
  by_cases hi : i < ds.length
  · rw [List.getElem?_append_left (by rw [List.length_map]; exact hi), List.getElem?_map] at e
    rw [List.getElem?_append_left (by rw [List.length_map, h.length]; exact hi), List.getElem?_map]
    have go : ∀ {ds : List Dat} {vs : List V} {i : Nat}, RepVs K W ds vs → ds[i]?.map some = some (some d) → ∃ v : V, vs[i]?.map some = some (some v) ∧ RepV K W d v := by
      intro ds
      induction ds with
      | nil => intro vs i h e; simp at e
      | cons d0 ds ih =>
        intro vs i ⟨x, r, e1, h1, h2⟩ e
        subst e1
        cases i with
        | zero =>
          simp at e
          subst e
          exact ⟨x, rfl, h1⟩
        | succ i =>
          obtain ⟨v, h3, h4⟩ := ih (vs := r) (i := i) h2 (by simpa using e)
          exact ⟨v, by simpa using h3, h4⟩
    exact go h e
  · rw [List.getElem?_append_right (by rw [List.length_map]; omega)] at e
    have := List.getElem?_eq_some_iff.mp e
    obtain ⟨h1, h2⟩ := this
    rw [List.getElem_replicate] at h2
    cases h2
/-- a body, with what is wanted at its end, from its meaning -/
theorem body_M {K : PySem.W.Frag} {N : List Str} {m : DS} {W : Wd} {S : Sto} {ds : List Dat} {vs : List V} {H : Hp} {Q : VK} {E : XK} (hS : SimS K W S H) (r : RepVs K W ds vs) (q : PostE K W H (fun c d _ H => E c d H) [] (mFn N.length m ds S) Q) :
    tS K (fun c d _ H => E c d H) m { nx := fun _ H' => Q .non H', rt := Q } (L2.start N vs) H := by
  have hE : SimE K W (ds.map some ++ List.replicate (N.length - ds.length) none) (L2.start N vs) := by
    unfold L2.start
    rw [r.length]
    exact SimE.start _ r
  refine ⟨_, S, W, hE, hS, ?_⟩
  unfold mFn at q
  cases h : m (ds.map some ++ List.replicate (N.length - ds.length) none) S with
  | nx e1 S1 =>
    rw [h] at q
    exact fun W' σ' H' e _ s => q ⟨W'.G, W.cs⟩ H' .non (e.shut) (hS.take e s) (.inr rfl)
  | rt d S1 =>
    rw [h] at q
    intro W' H' v e s rv
    have q1 : PostE K W H (fun c d _ H => E c d H) [] (mEnd S.length d S1) Q := q
    rcases rv with ⟨l, a, rfl, h2, h3⟩ | rv
    · exact q1 W' H' v e s (.inl ⟨l, a, rfl, h2, h3⟩)
    · have fin : PostE K W H (fun c d _ H => E c d H) [] (.ok d (S1.take S.length)) Q := by
        cases d with
        | cell l => exact rv.elim
        | _ => exact q1
      exact fin ⟨W'.G, W.cs⟩ H' v (e.shut) (hS.take e s) (.inr rv)
  | rz ex e1 S1 =>
    rw [h] at q
    intro W' σ' H' cls dd e _ s rx
    exact q ⟨W'.G, W.cs⟩ H' cls dd (e.shut) (hS.take e s) rx
  | bk _ _ => rw [h] at q; exact q.elim
  | ct _ _ => rw [h] at q; exact q.elim
  | stk => rw [h] at q; exact q.elim
theorem mFn_len {N : Nat} {m : DS} {n : Nat} {ds : List Dat} : True := trivial
end JL
/-! J3: calls of defs, methods, classes; fields. -/
namespace JL
open PySem PySem.Spec L2

/-! ### argument lists of known length -/
structure JAn (X : Cx) (Wx : WX) (es : List Expr) (m : DA) (n : Nat) : Prop where
  ja : JA X Wx es m
  len : ∀ env S ds S', m env S = .ok ds S' → ds.length = n
structure JKn (X : Cx) (Wx : WX) (kws : List Keyword) (m : DA) (n : Nat) : Prop where
  jk : PK X kws (tA X.K Wx m)
  len : ∀ env S ds S', m env S = .ok ds S' → ds.length = n
section
variable {X : Cx} {Wx : WX}
theorem mCons_len {m : DE} {r : DA} {n : Nat} (h : ∀ env S ds S', r env S = .ok ds S' → ds.length = n) : ∀ env S ds S', mCons m r env S = .ok ds S' → ds.length = n + 1 := fun env S ds S' e => by
  unfold mCons at e
  cases h1 : m env S with
  | stk => rw [h1] at e; cases e
  | rz _ _ => rw [h1] at e; cases e
  | ok a S1 =>
    rw [h1] at e
    have e1 : ((r env S1).bind fun ds S2 => .ok (a :: ds) S2) = Out.ok ds S' := e
    cases h2 : r env S1 with
    | stk => rw [h2] at e1; cases e1
    | rz _ _ => rw [h2] at e1; cases e1
    | ok b S2 =>
      rw [h2] at e1
      have e2 : Out.ok (a :: b) S2 = Out.ok ds S' := e1
      injection e2 with e3 _
      rw [← e3, List.length_cons, h _ _ _ _ h2]
theorem jn_nil : JAn X Wx [] mNil 0 := ⟨ja_nil, fun _ _ _ _ e => by cases e; rfl⟩
theorem jn_cons {e : Expr} {es : List Expr} {m : DE} {r : DA} {n : Nat} (h : JE X Wx e m) (hr : JAn X Wx es r n) (hs : starEach (e :: es) X.env = (false, eval e X.env) :: starEach es X.env := by rfl) : JAn X Wx (e :: es) (mCons m r) (n + 1) :=
  ⟨ja_cons h hr.ja hs, mCons_len hr.len⟩
theorem tA_cons {m : DE} {r : DA} {σ : St} {H : Hp} {Q : List V → Hp → Prop} : tA X.K Wx (mCons m r) σ H Q → tCons (tE X.K Wx m) (tA X.K Wx r) σ H Q := fun ⟨env, S, W, hE, hS, q⟩ => by
  refine ⟨env, S, W, hE, hS, ?_⟩
  unfold mCons at q
  cases h1 : m env S with
  | stk => rw [h1] at q; exact q.elim
  | rz ex S1 => rw [h1] at q; exact q
  | ok a S1 =>
    rw [h1] at q
    intro W1 H1 x e1 hS1 rx
    refine ⟨env, S1, W1, hE.mono e1.le, hS1, ?_⟩
    have q1 : PostA X.K W H Wx σ ((r env S1).bind fun ds S2 => .ok (a :: ds) S2) Q := q
    cases h2 : r env S1 with
    | stk => rw [h2] at q1; exact q1.elim
    | rz ex S2 => rw [h2] at q1; exact PostA.mono (o := .rz ex S2) (Q := Q) e1 q1
    | ok b S2 =>
      rw [h2] at q1
      intro W2 H2 y e2 hS2 ry
      exact q1 W2 H2 (x :: y) (e1.trans e2) hS2 ⟨x, y, rfl, rx.mono e2.le, ry⟩
theorem PK.weak {kws : List Keyword} {t t' : TA} (h : PK X kws t) (k : ∀ σ H Q, t' σ H Q → t σ H Q) : PK X kws t' := ⟨fun pos pins s σ H Q I q => h.run pos pins s σ H Q I (k σ H Q q)⟩
theorem jk_nil : JKn X Wx [] mNil 0 := ⟨PK.weak pk_nil fun _ H _ ⟨_, _, W, _, hS, q⟩ => q W H [] .refl hS rfl, fun _ _ _ _ e => by cases e; rfl⟩
theorem jk_cons {nm : Option Str} {kpos : Pos} {e : Expr} {kws : List Keyword} {m : DE} {r : DA} {n : Nat} (h : JE X Wx e m) (hr : JKn X Wx kws r n) : JKn X Wx (⟨nm, e, kpos⟩ :: kws) (mCons m r) (n + 1) :=
  ⟨PK.weak (pk_cons h hr.jk) fun _ _ _ => tA_cons, mCons_len hr.len⟩
end

/-! ### callees -/
section
variable (P : Program) (w : World) (K : PySem.W.Frag) (mg : Str → Option Value) (base : Heap)
/-- called with n positional values, and keywords named ks -/
def FnG (k : Nat) (f : Addr) (n : Nat) (ks : List Str) (m : Fn) : Prop := ∀ (A : Around) (outer : List PySem.Env) (s : Shared) (H : Hp) (us ws : List Value) (vs zs : List V) (Q : VK) (E : XK), Room k A → Env0 P w K mg base A outer s H → Vals vs us → Vals zs ws → vs.length = n → zs.length = ks.length → spM K m (vs ++ zs) H Q E →
  codeAny (model P w) A (.call (.ref f) ⟨us, ks.zip ws⟩) (CR (L2.CX P w) outer P w H s Q E) s
/-- a def by its global name -/
structure Cal (k : Nat) (x : Str) (n : Nat) (ks : List Str) (m : Fn) : Prop where
  ex : ∃ f : Addr, FnG P w K mg base k f n ks m ∧ mg x = some (.ref f) ∧ PySem.W.keepIn K (.ref f) = true
/-- a method of a class -/
structure Mth (k : Nat) (C x : Str) (n : Nat) (ks : List Str) (m : Fn) : Prop where
  cl : Cls K (He.ga K C)
  ex : ∃ f : Addr, FnG P w K mg base k f (n + 1) ks m ∧ Meth K (He.ga K C) x f
/-- a class, by its __init__ -/
structure Mkr (k : Nat) (C : Str) (n : Nat) (ks : List Str) (m : Fn) : Prop where
  gm : mg C = some (.ref (He.ga K C))
  ex : ∃ f : Addr, FnG P w K mg base k f (n + 1) ks m ∧ Mk K (He.ga K C) f
end
section
variable {P : Program} {w : World} {K : PySem.W.Frag} {mg : Str → Option Value} {base : Heap} {j k n : Nat} {f : Addr} {fd : FuncData} {ps ks : List Str} {m : Fn}
theorem FnG.mono (h : j ≤ k) (F : FnG P w K mg base j f n ks m) : FnG P w K mg base k f n ks m := fun A outer s H us ws vs zs Q E hr => F A outer s H us ws vs zs Q E (hr.mono h)
/-- all parameters by position -/
theorem FnG.of (F : FnOk P w K mg base (L2.CX P w) k f fd ps (spM K m)) (hb : Binds K fd ps []) (hn : n = ps.length) : FnG P w K mg base k f n [] m := fun A outer s H us ws vs zs Q E hr e0 r rz l1 l2 h => by
  cases zs with
  | cons _ _ => cases l2
  | nil =>
    cases rz
    rw [List.append_nil] at h
    have KX : K.In s.heap := e0.mod.kin.keeps fun b o e => (e0.bs b o e).1
    have hl : (us ++ []).length = ps.length := by rw [List.append_nil, ← r.length, l1, hn]
    have b := hb s us KX hl
    rw [List.append_nil] at b
    exact F.run A outer s H ⟨us, []⟩ us vs Q E hr e0 b r h
/-- the last ones by their defaults -/
theorem FnG.ofD {ds : List Value} {dvs : List V} {dds : List Dat} (F : FnOk P w K mg base (L2.CX P w) k f fd ps (spM K m)) (hb : Binds K fd ps ds) (hd : Vals dvs ds) (rd : ∀ W, RepVs K W dds dvs) (hn : n + dds.length = ps.length) : FnG P w K mg base k f n [] (fun as S => m (as ++ dds) S) := fun A outer s H us ws vs zs Q E hr e0 r rz l1 l2 h => by
  cases zs with
  | cons _ _ => cases l2
  | nil =>
    cases rz
    rw [List.append_nil] at h
    have KX : K.In s.heap := e0.mod.kin.keeps fun b o e => (e0.bs b o e).1
    have hl : (us ++ ds).length = ps.length := by rw [List.length_append, ← r.length, ← hd.length, l1, (rd ⟨fun _ => none, []⟩).length, hn]
    have b := hb s us KX hl
    obtain ⟨W, S, as, s1, r1, q⟩ := h
    exact F.run A outer s H ⟨us, []⟩ (us ++ ds) (vs ++ dvs) Q E hr e0 b (r.append hd) ⟨W, S, as ++ dds, s1, r1.append (rd W), q⟩
theorem RepVs.split {K : PySem.W.Frag} {W : Wd} : ∀ {vs zs : List V} {as : List Dat}, RepVs K W as (vs ++ zs) → ∃ bs cs, as = bs ++ cs ∧ RepVs K W bs vs ∧ RepVs K W cs zs
  | [], zs, as, h => ⟨[], as, rfl, rfl, h⟩
  | v :: vs, zs, [], h => by cases h
  | v :: vs, zs, a :: as, ⟨x, r, e, h1, h2⟩ => by
    injection e with e1 e2
    subst e1 e2
    obtain ⟨bs, cs, e3, h3, h4⟩ := RepVs.split h2
    exact ⟨a :: bs, cs, by rw [e3]; rfl, ⟨_, _, rfl, h1, h3⟩, h4⟩
/-- with keywords -/
theorem FnG.ofK {g : List Value → List Value → List Value} {gV : List V → List V → List V} {gD : List Dat → List Dat → List Dat} (F : FnOk P w K mg base (L2.CX P w) k f fd ps (spM K m)) (hb : KBn K fd ps n ks g gV) (rd : ∀ W as bs vs zs, RepVs K W as vs → RepVs K W bs zs → RepVs K W (gD as bs) (gV vs zs)) :
    FnG P w K mg base k f n ks (fun as S => m (gD (as.take n) (as.drop n)) S) := fun A outer s H us ws vs zs Q E hr e0 r rz l1 l2 h => by
  have KX : K.In s.heap := e0.mod.kin.keeps fun b o e => (e0.bs b o e).1
  obtain ⟨W, S, as, s1, r1, q⟩ := h
  obtain ⟨bs, cs, e, h1, h2⟩ := r1.split
  subst e
  have lb : bs.length = n := by rw [← h1.length, l1]
  have q' : PostE K W H (fun c d _ H => E c d H) [] (m (gD ((bs ++ cs).take n) ((bs ++ cs).drop n)) S) Q := q
  rw [List.take_left' lb, List.drop_left' lb] at q'
  exact F.run A outer s H ⟨us, ks.zip ws⟩ (g us ws) (gV vs zs) Q E hr e0 (hb.to s us ws KX (by rw [← r.length, l1]) (by rw [← rz.length, l2])) (hb.rel r rz) ⟨W, S, _, s1, rd W _ _ _ _ h1 h2, q'⟩
end
/-- a def's meaning, where the number of arguments is right -/
def mDef (np N : Nat) (body : DS) : Fn := fun ds S => if ds.length = np then mFn N body ds S else .stk
theorem mDef_eq {np N : Nat} {body : DS} {ds : List Dat} {S : Sto} (h : ds.length = np) : mDef np N body ds S = mFn N body ds S := if_pos h
section
variable {P : Program} {w : World} {K : PySem.W.Frag} {mg : Str → Option Value} {base : Heap}
/-- the context of a def's body -/
abbrev XC (P : Program) (w : World) (K : PySem.W.Frag) (mg : Str → Option Value) (base : Heap) (N : List Str) (qual : Str) (scope : Scope) (f : Addr) (cdv : Value) (A : Around) (outer : List PySem.Env) (s : Shared) (H : Hp) (E : XK) : Cx := cxOf (L2.CX P w) P w K mg base N qual scope f cdv A outer s H E
abbrev WE0 (E : XK) : WX := fun c d _ H => E c d H
theorem fn_J {x qual : Str} {params : Arguments} {body : List Stmt} {scope : Scope} {dvs : List V} {kws : List (Str × V)} {f : Addr} {fd : FuncData} {N ps : List Str} {k : Nat} {mb : DS} (F : FunD K x qual params body scope dvs kws f fd) (S : FnScope N ps scope)
    (hJ : ∀ (cdv : Value) (A : Around) (outer : List PySem.Env) (s : Shared) (H : Hp) (E : XK), Ctx (XC P w K mg base N qual scope f cdv A outer s H E) (WE0 E) k → JSs (XC P w K mg base N qual scope f cdv A outer s H E) (WE0 E) body mb) :
    FnOk P w K mg base (L2.CX P w) (k + 1) f fd ps (spM K (mDef ps.length N.length mb)) := by
  refine F.ok S (fun vs H Q E ⟨W, S0, ds, s1, r, q⟩ => ?_) fun cdv A outer s H vs Q E hr ⟨W, S0, ds, s1, r, q⟩ => ?_
  · rw [r.length]
    unfold mDef at q
    by_cases h : ds.length = ps.length
    · exact h
    · rw [if_neg h] at q
      exact q.elim
  · have c : Ctx (XC P w K mg base N qual scope f cdv A outer s H E) (WE0 E) k := ⟨takes_of rfl rfl rfl rfl, passes_of rfl, rfl, hr, S.nd⟩
    have hl : ds.length = ps.length := by
      unfold mDef at q
      by_cases h : ds.length = ps.length
      · exact h
      · rw [if_neg h] at q
        exact q.elim
    rw [mDef_eq hl] at q
    exact ⟨_, hJ cdv A outer s H E c, body_M s1 r q⟩
end

/-! ### calls -/
section
variable {X : Cx} {Wx : WX} {j k n : Nat} {ks : List Str} {m : Fn} {x C : Str} {p pos apos : Pos} {e o : Expr} {es : List Expr} {kws : List Keyword} {ma mk : DA} {mo : DE}
theorem run_G {f : Addr} {pins : List (Addr × Obj)} {σ : St} {H : Hp} {s : Shared} {Q : VK} {us ws : List Value} {vs zs : List V} (F : FnG X.prog X.w X.K X.mg X.base k f n ks m) (hr : Room k X.A) (tk : Takes X Wx) (I : Inv X pins σ H s) (r : Vals vs us) (rz : Vals zs ws)
    (l1 : vs.length = n) (l2 : zs.length = ks.length) (h : spM X.K m (vs ++ zs) H Q (WE Wx σ)) : wpAny (model X.prog X.w) X.A (call (.ref f) us (ks.zip ws)) (EP X pins σ Q) X.xe s := by
  refine wpAny_call (codeAny_mono (F X.A X.stack s H us ws vs zs Q (WE Wx σ) hr I.env0 r rz l1 l2 h) fun r s' hq => ?_)
  cases r with
  | error e => exact passAt tk σ pins H s e s' I hq
  | ok fl =>
    cases fl with
    | ret u => exact I.after hq
    | next => exact False.elim hq
    | brk => exact False.elim hq
    | cont => exact False.elim hq
def mCall (m : Fn) (ma mk : DA) : DE := fun env S => (ma env S).bind fun ds S1 => (mk env S1).bind fun es S2 => m (ds ++ es) S2
theorem post_call {K : PySem.W.Frag} {W : Wd} {σ : St} {H : Hp} {env : Env} {S : Sto} {Q : VK} {R : List V → List V → Hp → Prop} (hE : SimE K W env σ) (hS : SimS K W S H) (q : PostE K W H Wx σ (mCall m ma mk env S) Q)
    (hk : ∀ ds es S2 W2 H2 vs zs, Stp W H W2 H2 → SimS K W2 S2 H2 → RepVs K W2 ds vs → RepVs K W2 es zs → (∃ env S S', ma env S = .ok ds S') → (∃ env S S', mk env S = .ok es S') → PostE K W2 H2 Wx σ (m (ds ++ es) S2) Q → R vs zs H2) :
    tA K Wx ma σ H fun vs H1 => tA K Wx mk σ H1 fun zs H2 => R vs zs H2 := by
  refine ⟨env, S, W, hE, hS, ?_⟩
  unfold mCall at q
  cases h1 : ma env S with
  | stk => rw [h1] at q; exact q.elim
  | rz ex S1 => rw [h1] at q; exact q
  | ok a S1 =>
    rw [h1] at q
    intro W1 H1 vs e1 hS1 rx
    refine ⟨env, S1, W1, hE.mono e1.le, hS1, ?_⟩
    have q1 : PostE K W H Wx σ ((mk env S1).bind fun es S2 => m (a ++ es) S2) Q := q
    cases h2 : mk env S1 with
    | stk => rw [h2] at q1; exact q1.elim
    | rz ex S2 => rw [h2] at q1; exact PostE.mono (o := .rz ex S2) (Q := Q) e1 q1
    | ok b S2 =>
      rw [h2] at q1
      intro W2 H2 zs e2 hS2 ry
      exact hk a b S2 W2 H2 vs zs (e1.trans e2) hS2 (rx.mono e2.le) ry ⟨_, _, _, h1⟩ ⟨_, _, _, h2⟩ (PostE.mono (o := m (a ++ b) S2) (e1.trans e2) q1)
/-- f(e, ..) -/
theorem je_call (c : Ctx X Wx j) (F : Cal X.prog X.w X.K X.mg X.base k x n [] m) (hk : k ≤ j) (ha : JAn X Wx (e :: es) ma n) (hg : Gl X x := by rfl) (hdb : (x == ("__debug__" : Str)) = false := by decide)
    (he : starEach (e :: es) X.env = (false, eval e X.env) :: starEach es X.env := by rfl) (hpl : (backTo pos (starEach es X.env)).any (·.1) = false := by rfl) : JE X Wx (.Call (.Name x p) (e :: es) [] pos) (mCall m ma mNil) := by
  obtain ⟨f, F, hm, hkp⟩ := F.ex
  refine ⟨fun pins s σ H Q I ⟨env, S, W, hE, hS, q⟩ => ?_⟩
  refine wpAny_Call_Name_kw (ld_glob I hg hm ?_ hdb)
  refine PySem.W.callWith_K (h₀ := X.base) I.ok.mod.kin hkp (thn (ha.ja.run pos pins s σ H _ I (post_call hE hS q (R := fun vs zs H2 => zs = [] → vs.length = n ∧ spM X.K m (vs ++ []) H2 Q (WE Wx σ)) fun ds es S2 W2 H2 vs zs _ s2 r1 r2 ⟨_, _, _, h1⟩ _ q2 ez => ?_)) fun us s1 ⟨vs, H1, I1, r, q1⟩ => ⟨I1.kIn, ?_⟩) he hpl
  · subst ez
    cases es with
    | cons _ _ => obtain ⟨_, _, e2, _⟩ := r2; cases e2
    | nil =>
      rw [List.append_nil] at q2 ⊢
      exact ⟨by rw [r1.length]; exact ha.len _ _ _ _ h1, W2, S2, ds, s2, r1, q2⟩
  · obtain ⟨env2, S2, W2, hE2, hS2, q2⟩ := q1
    obtain ⟨l1, q3⟩ := q2 W2 H1 [] .refl hS2 rfl rfl
    exact run_G (ks := []) (ws := []) F (c.hr.mono hk) c.tk I1 r .nil l1 rfl q3
/-- f() -/
theorem je_call0 (c : Ctx X Wx j) (F : Cal X.prog X.w X.K X.mg X.base k x 0 [] m) (hk : k ≤ j) (hg : Gl X x := by rfl) (hdb : (x == ("__debug__" : Str)) = false := by decide) : JE X Wx (.Call (.Name x p) [] [] pos) (mCall m mNil mNil) := by
  obtain ⟨f, F, hm, hkp⟩ := F.ex
  refine ⟨fun pins s σ H Q I ⟨env, S, W, hE, hS, q⟩ => ?_⟩
  refine wpAny_Call_Name_kw (ld_glob I hg hm ?_ hdb)
  exact PySem.W.callWith_K0 I.kIn hkp (run_G (ks := []) (us := []) (vs := []) (zs := []) (ws := []) F (c.hr.mono hk) c.tk I .nil .nil rfl rfl ⟨W, S, [], hS, rfl, q⟩)
/-- f(e, .., k = v, ..) -/
theorem je_callK (c : Ctx X Wx j) (F : Cal X.prog X.w X.K X.mg X.base k x n ks m) (hk : k ≤ j) (ha : JAn X Wx (e :: es) ma n) (hkw : JKn X Wx kws mk ks.length) (hg : Gl X x := by rfl) (hall : (backToKw pos (keywordEach kws X.env)).all (·.1.isSome) = true := by rfl) (hks : (backToKw pos (keywordEach kws X.env)).filterMap (·.1) = ks := by rfl)
    (hdb : (x == ("__debug__" : Str)) = false := by decide) (he : starEach (e :: es) X.env = (false, eval e X.env) :: starEach es X.env := by rfl) (hpl : ((backTo pos (starEach (e :: es) X.env)).any (·.1) || (backToKw pos (keywordEach kws X.env)).any (·.1.isNone)) = false := by rfl) :
    JE X Wx (.Call (.Name x p) (e :: es) kws pos) (mCall m ma mk) := by
  obtain ⟨f, F, hm, hkp⟩ := F.ex
  refine ⟨fun pins s σ H Q I ⟨env, S, W, hE, hS, q⟩ => ?_⟩
  refine wpAny_Call_Name_kw (ld_glob I hg hm ?_ hdb)
  refine PySem.W.callWith_KW (h₀ := X.base) I.ok.mod.kin hkp hall (thn (ha.ja.run pos pins s σ H _ I (post_call hE hS q (R := fun vs zs H2 => vs.length = n ∧ zs.length = ks.length ∧ spM X.K m (vs ++ zs) H2 Q (WE Wx σ)) fun ds es S2 W2 H2 vs zs _ s2 r1 r2 ⟨_, _, _, h1⟩ ⟨_, _, _, h2⟩ q2 => ?_)) fun us s1 ⟨vs, H1, I1, r, q1⟩ => ?_) hpl he
  · exact ⟨by rw [r1.length]; exact ha.len _ _ _ _ h1, by rw [r2.length]; exact hkw.len _ _ _ _ h2, W2, S2, ds ++ es, s2, r1.append r2, q2⟩
  · refine thn (hkw.jk.run pos pins s1 σ H1 _ I1 q1) fun ws s2 ⟨zs, H2, I2, rz, l1, l2, q2⟩ => ⟨I2.kIn, ?_⟩
    rw [hks]
    exact run_G F (c.hr.mono hk) c.tk I2 r rz l1 l2 q2
/-! ### methods -/
theorem RepF.lookup_none {K : PySem.W.Frag} {G : Hp} {x : Str} : ∀ {gs : List (Str × Dat)} {fs : List (Str × V)}, RepF K G gs fs → gs.lookup x = none → fs.lookup x = none
  | [], _, h, _ => by cases h; rfl
  | (g, d) :: gs, _, ⟨v, r, e, h1, h2⟩, hl => by
    subst e
    unfold List.lookup at hl ⊢
    cases hx : x == g with
    | true => rw [hx] at hl; cases hl
    | false =>
      rw [hx] at hl
      exact RepF.lookup_none h2 hl
theorem RepF.lookup_some {K : PySem.W.Frag} {G : Hp} {x : Str} {d : Dat} : ∀ {gs : List (Str × Dat)} {fs : List (Str × V)}, RepF K G gs fs → gs.lookup x = some d → ∃ v, fs.lookup x = some v ∧ Rep K G d v
  | [], _, h, hl => by cases hl
  | (g, d') :: gs, _, ⟨v, r, e, h1, h2⟩, hl => by
    subst e
    unfold List.lookup at hl ⊢
    cases hx : x == g with
    | true =>
      rw [hx] at hl
      have e2 : d' = d := Option.some.inj hl
      subst e2
      exact ⟨v, rfl, h1⟩
    | false =>
      rw [hx] at hl
      exact RepF.lookup_some h2 hl
/-- the fields of an instance of C -/
def insOf (C : Str) (d : Dat) (S : Sto) : Option (List (Str × Dat)) := match d with
  | .ins D gs => if D = C then some gs else none
  | .cell l => (match S[l]? with
    | some (some (.ins D gs)) => if D = C then some gs else none
    | _ => none)
  | _ => none
theorem insOf_at {K : PySem.W.Frag} {W : Wd} {S : Sto} {H : Hp} {C : Str} {d : Dat} {v : V} {gs : List (Str × Dat)} (hS : SimS K W S H) (r : RepV K W d v) (h : insOf C d S = some gs) : ∃ a dx fs, v = .ref a ∧ H a = some (.ins (He.ga K C) dx fs) ∧ RepF K W.G gs fs := by
  unfold insOf at h
  cases d with
  | ins D g =>
    have h : (if D = C then some g else none) = some gs := h
    by_cases e : D = C
    · rw [if_pos e] at h
      cases h
      subst e
      obtain ⟨a, dx, fs, h1, h2, h3⟩ := r.ins
      exact ⟨a, dx, fs, h1, hS.ins h2, h3⟩
    · rw [if_neg e] at h
      cases h
  | cell l =>
    obtain ⟨a, h1, h2⟩ := r.cell
    simp only at h
    split at h
    · rename_i D g hl
      by_cases e : D = C
      · rw [if_pos e] at h
        cases h
        subst e
        obtain ⟨b, o, h3, h4, h5, dx, fs, h6, h7⟩ := hS.cel l _ hl
        rw [h1] at h3
        cases h3
        subst h6
        exact ⟨a, dx, fs, h2, h5, h7⟩
      · rw [if_neg e] at h
        cases h
    · cases h
  | _ => cases h
def mMeth (C x : Str) (m : Fn) (mo : DE) (ma mk : DA) : DE := fun env S => (mo env S).bind fun d S1 => match insOf C d S1 with
  | some gs => (match gs.lookup x with
    | none => (ma env S1).bind fun ds S2 => (mk env S2).bind fun es S3 => m (d :: (ds ++ es)) S3
    | some _ => .stk)
  | none => .stk
theorem meth_go {σ : St} {H : Hp} {Q : VK} {env : Env} {S : Sto} {W : Wd} (hE : SimE X.K W env σ) (hS : SimS X.K W S H) (q : PostE X.K W H Wx σ (mMeth C x m mo ma mk env S) Q) (ha : JAn X Wx es ma n) (hkw : JKn X Wx kws mk ks.length) :
    tE X.K Wx mo σ H fun v H1 => ∃ a dx fs, v = .ref a ∧ H1 a = some (.ins (He.ga X.K C) dx fs) ∧ fs.lookup x = none ∧ tA X.K Wx ma σ H1 fun vs H2 => tA X.K Wx mk σ H2 fun zs H3 => vs.length = n ∧ zs.length = ks.length ∧ spM X.K m ((v :: vs) ++ zs) H3 Q (WE Wx σ) := by
  refine tE_bind hE hS q fun d S1 W1 H1 v e1 s1 r1 q1 => ?_
  cases h1 : insOf C d S1 with
  | none => rw [h1] at q1; exact q1.elim
  | some gs =>
    rw [h1] at q1
    obtain ⟨a, dx, fs, e2, e3, e4⟩ := insOf_at s1 r1 h1
    cases h2 : gs.lookup x with
    | some y => simp only [h2] at q1; exact q1.elim
    | none =>
      simp only [h2] at q1
      refine ⟨a, dx, fs, e2, e3, e4.lookup_none h2, ?_⟩
      refine post_call (m := fun ds S => m (d :: ds) S) (hE.mono e1.le) s1 q1 fun ds es S2 W2 H2 vs zs e5 s2 r2 r3 ⟨_, _, _, h3⟩ ⟨_, _, _, h4⟩ q2 => ?_
      refine ⟨by rw [r2.length]; exact ha.len _ _ _ _ h3, by rw [r3.length]; exact hkw.len _ _ _ _ h4, W2, S2, d :: (ds ++ es), s2, ⟨v, vs ++ zs, rfl, r1.mono e5.le, r2.append r3⟩, q2⟩
/-- o.x(e, ..) -/
theorem je_meth {pl : Sem Bool} (c : Ctx X Wx j) (F : Mth X.prog X.w X.K X.mg X.base k C x n [] m) (hk : k ≤ j) (ho : JE X Wx o mo) (ha : JAn X Wx (e :: es) ma n) (hst : starEach (e :: es) X.env = (false, eval e X.env) :: starEach es X.env := by rfl) (hpl : (backTo pos (starEach es X.env)).any (·.1) = false := by rfl)
    (ht : eval (.Call (.Attribute o x apos) (e :: es) [] pos) X.env = (do
      let ov ← eval o X.env
      standAt apos.atName
      let (f, first) ← holding [ov] (getMethod ov x pl)
      callWith pos f first (backTo pos (starEach (e :: es) X.env)) (backToKw pos (keywordEach [] X.env))) := by rfl) : JE X Wx (.Call (.Attribute o x apos) (e :: es) [] pos) (mMeth C x m mo ma mNil) := by
  obtain ⟨f, F2, hm⟩ := F.ex
  refine ⟨fun pins s σ H Q I ⟨env, S, W, hE, hS, q⟩ => ?_⟩
  have g := meth_go (ks := []) hE hS q ha jk_nil
  refine PySem.W.methodCall_KW (pl := pl) (thn (ho.run pins s σ H _ I g) fun u s1 ⟨v, H1, I1, rv, a, dx, fs, ev, ea, l, q1⟩ => ?_) ht
  subst ev
  obtain rfl : u = Value.ref a := rv
  refine getmeth_ok I1 ea F.cl hm l ?_
  refine PySem.W.callWith_K (first := [.ref a]) (h₀ := X.base) I.ok.mod.kin hm.kp (thn (ha.ja.run pos pins s1 σ H1 _ I1 q1) fun us s2 ⟨vs, H2, I2, r, q2⟩ => ⟨I2.kIn, ?_⟩) hst hpl
  obtain ⟨env2, S2, W2, hE2, hS2, q3⟩ := q2
  obtain ⟨l1, _, q4⟩ := q3 W2 H2 [] .refl hS2 rfl
  exact run_G (ks := []) (ws := []) (us := .ref a :: us) (vs := .ref a :: vs) F2 (c.hr.mono hk) c.tk I2 (.cons rfl r) .nil (by rw [List.length_cons, l1]) rfl q4
/-- o.x() -/
theorem je_meth0 {pl : Sem Bool} (c : Ctx X Wx j) (F : Mth X.prog X.w X.K X.mg X.base k C x 0 [] m) (hk : k ≤ j) (ho : JE X Wx o mo)
    (ht : eval (.Call (.Attribute o x apos) [] [] pos) X.env = (do
      let ov ← eval o X.env
      standAt apos.atName
      let (f, first) ← holding [ov] (getMethod ov x pl)
      callWith pos f first (backTo pos (starEach [] X.env)) (backToKw pos (keywordEach [] X.env))) := by rfl) : JE X Wx (.Call (.Attribute o x apos) [] [] pos) (mMeth C x m mo mNil mNil) := by
  obtain ⟨f, F2, hm⟩ := F.ex
  refine ⟨fun pins s σ H Q I ⟨env, S, W, hE, hS, q⟩ => ?_⟩
  have g := meth_go (ks := []) hE hS q jn_nil jk_nil
  refine PySem.W.methodCall_KW (pl := pl) (thn (ho.run pins s σ H _ I g) fun u s1 ⟨v, H1, I1, rv, a, dx, fs, ev, ea, l, q1⟩ => ?_) ht
  subst ev
  obtain rfl : u = Value.ref a := rv
  refine getmeth_ok I1 ea F.cl hm l ?_
  obtain ⟨env2, S2, W2, hE2, hS2, q2⟩ := q1
  obtain ⟨env3, S3, W3, hE3, hS3, q3⟩ := q2 W2 H1 [] .refl hS2 rfl
  obtain ⟨_, _, q4⟩ := q3 W3 H1 [] .refl hS3 rfl
  exact PySem.W.callWith_K0 I1.kIn hm.kp (run_G (ks := []) (us := [.ref a]) (vs := [.ref a]) (zs := []) (ws := []) F2 (c.hr.mono hk) c.tk I1 (.cons rfl .nil) .nil rfl rfl q4)
/-! ### fields -/
def mFld (C f : Str) (mo : DE) : DE := fun env S => (mo env S).bind fun d S1 => match insOf C d S1 with
  | some gs => (match gs.lookup f with
    | some y => .ok y S1
    | none => .stk)
  | none => .stk
theorem je_fld {f : Str} (C : Str) (cl : Cls X.K (He.ga X.K C)) (na : NoAttr X.K (He.ga X.K C) f) (ho : JE X Wx e mo) (hb : attributeBase e f X.env (eval e X.env) = eval e X.env := by rfl) : JE X Wx (.Attribute e f pos) (mFld C f mo) :=
  PE.weak (pe_fld ho hb) fun σ H Q ⟨env, S, W, hE, hS, q⟩ => tE_bind hE hS q fun d S1 W1 H1 v e1 s1 r1 q1 => by
    cases h1 : insOf C d S1 with
    | none => rw [h1] at q1; exact q1.elim
    | some gs =>
      rw [h1] at q1
      obtain ⟨a, dx, fs, e2, e3, e4⟩ := insOf_at s1 r1 h1
      cases h2 : gs.lookup f with
      | none => simp only [h2] at q1; exact q1.elim
      | some y =>
        simp only [h2] at q1
        obtain ⟨u, h3, h4⟩ := e4.lookup_some h2
        exact ⟨a, _, dx, fs, u, e2, e3, cl, na, h3, q1 W1 H1 u .refl s1 (.inr h4)⟩
/-! ### classes made -/
def mMake (C : Str) (m : Fn) (ma mk : DA) : DE := fun env S => (ma env S).bind fun ds S1 => (mk env S1).bind fun es S2 =>
  (m (.cell S2.length :: (ds ++ es)) (S2 ++ [some (.ins C [])])).bind fun r S3 => match r with
    | .non => (match S3[S2.length]? with
      | some (some (.ins D gs)) => if D = C then .ok (.ins C gs) (S3.take S2.length) else .stk
      | _ => .stk)
    | _ => .stk
theorem SimS.push {K : PySem.W.Frag} {W : Wd} {S : Sto} {H H' : Hp} {a : Addr} {d : Dat} {o : HO} (h : SimS K W S H) (e : Ext H H') (ha : H a = none) (ho : H' a = some o) (hc : CellOk K W.G d o) : SimS K ⟨W.G, W.cs ++ [a]⟩ (S ++ [some d]) H' := by
  have hg : W.G a = none := by
    cases q : W.G a with
    | none => rfl
    | some u => exact absurd ha (h.ex q)
  refine ⟨h.sub.trans e, by rw [List.length_append, List.length_append, h.len]; rfl, ?_, fun l d' hl => ?_, fun b hb => ?_⟩
  · refine List.nodup_append.mpr ⟨h.nd, by simp, fun x hx y hy => ?_⟩
    have hy : y = a := by simpa using hy
    subst hy
    intro z
    subst z
    exact h.trk x hx ha
  · by_cases hlt : l < S.length
    · rw [List.getElem?_append_left hlt] at hl
      obtain ⟨b, u, h1, h2, h3, h4⟩ := h.cel l d' hl
      exact ⟨b, u, by rw [List.getElem?_append_left (by rw [← h.len]; exact hlt)]; exact h1, h2, e _ _ h3, h4⟩
    · rw [List.getElem?_append_right (by omega)] at hl
      have h0 : l - S.length = 0 := by
        have := (List.getElem?_eq_some_iff.mp hl).1
        simp at this
        omega
      rw [h0] at hl
      have hd : d = d' := by simpa using hl
      subst hd
      exact ⟨a, o, by rw [List.getElem?_append_right (by rw [← h.len]; omega), ← h.len, h0]; rfl, hg, ho, hc⟩
  · rcases List.mem_append.mp hb with hb | hb
    · intro z
      cases q : H b with
      | none => exact h.trk b hb q
      | some u => rw [e b u q] at z; cases z
    · have hb : b = a := by simpa using hb
      subst hb
      intro z
      rw [ho] at z
      cases z
/-- the last cell becomes an immutable object -/
theorem SimS.shut {K : PySem.W.Frag} {W W2 : Wd} {S S2 : Sto} {H H2 : Hp} {a : Addr} {d : Dat} {o : HO} (h : SimS K W S H) (e : Wd.le ⟨W.G, W.cs ++ [a]⟩ W2) (s : SimS K W2 S2 H2) (hl : S2[S.length]? = some (some d)) :
    ∃ u, W2.G a = none ∧ H2 a = some u ∧ CellOk K W2.G d u ∧ SimS K ⟨upd W2.G a u, W.cs⟩ (S2.take S.length) H2 ∧ W.le ⟨upd W2.G a u, W.cs⟩ := by
  obtain ⟨e1, r, e2⟩ := e
  have hcs : W2.cs = W.cs ++ (a :: r) := by rw [e2]; simp
  obtain ⟨b, u, h1, h2, h3, h4⟩ := s.cel _ _ hl
  have hb : b = a := by
    rw [hcs, h.len, List.getElem?_append_right (Nat.le_refl _), Nat.sub_self] at h1
    exact (Option.some.inj h1).symm
  subst hb
  refine ⟨u, h2, h3, h4, ⟨?_, ?_, ?_, fun l d' hl' => ?_, fun c hc => s.trk c (by rw [hcs]; exact List.mem_append_left _ hc)⟩, ⟨fun c o' hc => ?_, [], by simp⟩⟩
  · intro c o' hc
    have hc : upd W2.G b u c = some o' := hc
    by_cases z : c = b
    · subst z
      rw [upd_same] at hc
      cases hc
      exact h3
    · rw [upd_ne z] at hc
      exact s.sub c o' hc
  · rw [List.length_take, s.len, h.len, hcs, List.length_append]
    show min _ _ = W.cs.length
    omega
  · have nd := s.nd
    rw [hcs] at nd
    exact (List.nodup_append.mp nd).1
  · have hlt : l < W.cs.length := by
      have := (List.getElem?_eq_some_iff.mp hl').1
      rw [List.length_take] at this
      rw [← h.len]
      omega
    rw [List.getElem?_take_of_lt (by rw [h.len]; exact hlt)] at hl'
    obtain ⟨c, o', k1, k2, k3, k4⟩ := s.cel l d' hl'
    rw [hcs, List.getElem?_append_left hlt] at k1
    have ne : c ≠ b := by
      intro z
      subst z
      have nd := s.nd
      rw [hcs] at nd
      exact (List.nodup_append.mp nd).2.2 c (List.mem_of_getElem? k1) c (List.mem_cons_self) rfl
    exact ⟨c, o', k1, (upd_ne ne).trans k2, k3, k4.mono (ExtG.new h2)⟩
  · exact (e1.trans (ExtG.new h2)) c o' hc
theorem run_make {f : Addr} {pins : List (Addr × Obj)} {σ : St} {H : Hp} {s : Shared} {Q : VK} {us ws : List Value} {vs zs : List V} (M : Mk X.K (He.ga X.K C) f) (F : FnG X.prog X.w X.K X.mg X.base k f (n + 1) ks m) (hr : Room (k + 1) X.A) (tk : Takes X Wx) (I : Inv X pins σ H s) (r : Vals vs us) (rz : Vals zs ws) (l1 : vs.length = n) (l2 : zs.length = ks.length)
    (h : ∃ W S ds es, SimS X.K W S H ∧ RepVs X.K W ds vs ∧ RepVs X.K W es zs ∧ PostE X.K W H Wx σ ((m (.cell S.length :: (ds ++ es)) (S ++ [some (.ins C [])])).bind fun r S3 => match r with
      | .non => (match S3[S.length]? with
        | some (some (.ins D gs)) => if D = C then .ok (.ins C gs) (S3.take S.length) else .stk
        | _ => .stk)
      | _ => .stk) Q) : wpAny (model X.prog X.w) X.A (call (.ref (He.ga X.K C)) us (ks.zip ws)) (EP X pins σ Q) X.xe s := by
  obtain ⟨W, S, ds, es, hS, hds, hes, q⟩ := h
  have I2 := Inv.made (C := He.ga X.K C) I
  have n0 : H s.heap.objs.size = none := I.hok.fresh (Nat.le_refl _)
  have n1 : H (s.heap.objs.size + 1) = none := I.hok.fresh (Nat.le_succ _)
  have ex : Ext H (upd (upd H s.heap.objs.size (.own (s.heap.objs.size + 1))) (s.heap.objs.size + 1) (.ins (He.ga X.K C) s.heap.objs.size [])) := fun b o e => by
    rw [upd_ne (ne_of_none e n1), upd_ne (ne_of_none e n0)]
    exact e
  have hS2 : SimS X.K ⟨W.G, W.cs ++ [s.heap.objs.size + 1]⟩ (S ++ [some (.ins C [])]) (upd (upd H s.heap.objs.size (.own (s.heap.objs.size + 1))) (s.heap.objs.size + 1) (.ins (He.ga X.K C) s.heap.objs.size [])) := hS.push ex n1 upd_same ⟨s.heap.objs.size, [], rfl, rfl⟩
  have le1 : W.le ⟨W.G, W.cs ++ [s.heap.objs.size + 1]⟩ := ⟨.refl, _, rfl⟩
  have st1 : Stp W H ⟨W.G, W.cs ++ [s.heap.objs.size + 1]⟩ (upd (upd H s.heap.objs.size (.own (s.heap.objs.size + 1))) (s.heap.objs.size + 1) (.ins (He.ga X.K C) s.heap.objs.size [])) := ⟨le1, fun b o e g n => ⟨ex b o e, g, fun z => by
    rcases List.mem_append.mp z with z | z
    · exact n z
    · have z : b = s.heap.objs.size + 1 := by simpa using z
      subst z
      rw [n1] at e
      cases e⟩⟩
  have rc : RepV X.K ⟨W.G, W.cs ++ [s.heap.objs.size + 1]⟩ (.cell S.length) (.ref (s.heap.objs.size + 1)) := .inl ⟨S.length, _, rfl, by
    show (W.cs ++ [s.heap.objs.size + 1])[S.length]? = some (s.heap.objs.size + 1)
    rw [hS.len, List.getElem?_append_right (Nat.le_refl _), Nat.sub_self]
    rfl, rfl⟩
  refine wpAny_call (make_map (f := f) I.kIn M.makes M.init (beq_iff_eq.mp M.fn) (codeAny_mono (F _ X.stack _ _ (Value.ref (s.heap.objs.size + 1) :: us) ws (V.ref (s.heap.objs.size + 1) :: vs) zs (fun v H2 => v = .non ∧ Q (.ref (s.heap.objs.size + 1)) H2) (WE Wx σ) (hr.make (He.ga X.K C) us (ks.zip ws))
    (I2.env0.make (He.ga X.K C) us (ks.zip ws)) (.cons rfl r) rz (by rw [List.length_cons, l1]) l2 ?_) fun r s' hq' => ?_))
  · refine ⟨_, _, .cell S.length :: (ds ++ es), hS2, ⟨_, _, rfl, rc, (hds.mono le1).append (hes.mono le1)⟩, ?_⟩
    cases h0 : m (.cell S.length :: (ds ++ es)) (S ++ [some (.ins C [])]) with
    | stk => rw [h0] at q; exact q.elim
    | rz exn S3 =>
      rw [h0] at q
      intro W' H' cls dd e3 s3 rx
      exact q W' H' cls dd (st1.trans e3) s3 rx
    | ok rv S3 =>
      rw [h0] at q
      intro W' H' v e3 s3 rv3
      cases rv with
      | non =>
        have q1 : PostE X.K W H Wx σ (match S3[S.length]? with
          | some (some (.ins D gs)) => if D = C then Out.ok (.ins C gs) (S3.take S.length) else .stk
          | _ => .stk) Q := q
        refine ⟨rv3.non, ?_⟩
        split at q1
        · rename_i D gs hl
          by_cases eD : D = C
          · rw [if_pos eD] at q1
            subst eD
            obtain ⟨u, k1, k2, k3, k4, k5⟩ := hS.shut (o := .ins (He.ga X.K D) 0 []) e3.le s3 hl
            obtain ⟨dx, fs, k6, k7⟩ := k3
            subst k6
            exact q1 _ H' _ ⟨k5, fun a o e g n => ⟨((st1.trans e3).kp a o e g n).1, (upd_ne (fun z => by
              rw [z, n1] at e
              cases e)).trans ((st1.trans e3).kp a o e g n).2.1, n⟩⟩ k4 (.inr ⟨_, dx, fs, rfl, upd_same, k7.mono (ExtG.new k1)⟩)
          · rw [if_neg eD] at q1
            exact q1.elim
        · exact q1.elim
      | _ => exact q.elim
  · cases r with
    | error e => exact passAt tk σ pins _ _ e s' I2 hq'
    | ok fl =>
      cases fl with
      | ret u =>
        obtain ⟨v, H', I3, rv, ev, q3⟩ := I2.after hq'
        subst ev
        exact ⟨rv, ⟨V.ref (s.heap.objs.size + 1), H', I3, rfl, q3⟩⟩
      | next => exact False.elim hq'
      | brk => exact False.elim hq'
      | cont => exact False.elim hq'
theorem make_go {σ : St} {H : Hp} {Q : VK} {env : Env} {S : Sto} {W : Wd} (hE : SimE X.K W env σ) (hS : SimS X.K W S H) (q : PostE X.K W H Wx σ (mMake C m ma mk env S) Q) (ha : JAn X Wx es ma n) (hkw : JKn X Wx kws mk ks.length) :
    tA X.K Wx ma σ H fun vs H2 => tA X.K Wx mk σ H2 fun zs H3 => vs.length = n ∧ zs.length = ks.length ∧ ∃ W S ds es, SimS X.K W S H3 ∧ RepVs X.K W ds vs ∧ RepVs X.K W es zs ∧ PostE X.K W H3 Wx σ ((m (.cell S.length :: (ds ++ es)) (S ++ [some (.ins C [])])).bind fun r S3 => match r with
      | .non => (match S3[S.length]? with
        | some (some (.ins D gs)) => if D = C then .ok (.ins C gs) (S3.take S.length) else .stk
        | _ => .stk)
      | _ => .stk) Q := by
  refine ⟨env, S, W, hE, hS, ?_⟩
  unfold mMake at q
  cases h1 : ma env S with
  | stk => rw [h1] at q; exact q.elim
  | rz ex S1 => rw [h1] at q; exact q
  | ok a S1 =>
    rw [h1] at q
    intro W1 H1 vs e1 hS1 rx
    refine ⟨env, S1, W1, hE.mono e1.le, hS1, ?_⟩
    simp only [Out.bind] at q
    cases h2 : mk env S1 with
    | stk => rw [h2] at q; exact q.elim
    | rz ex S2 => rw [h2] at q; exact PostE.mono (o := .rz ex S2) (Q := Q) e1 q
    | ok b S2 =>
      rw [h2] at q
      intro W2 H2 zs e2 hS2 ry
      exact ⟨by rw [rx.length]; exact ha.len _ _ _ _ h1, by rw [ry.length]; exact hkw.len _ _ _ _ h2, W2, S2, a, b, hS2, rx.mono e2.le, ry, PostE.mono (e1.trans e2) q⟩
/-- C(e, ..) -/
theorem je_make (c : Ctx X Wx j) (F : Mkr X.prog X.w X.K X.mg X.base k C n [] m) (hk : k + 1 ≤ j) (ha : JAn X Wx (e :: es) ma n) (hg : Gl X C := by rfl) (hdb : (C == ("__debug__" : Str)) = false := by decide)
    (he : starEach (e :: es) X.env = (false, eval e X.env) :: starEach es X.env := by rfl) (hpl : (backTo pos (starEach es X.env)).any (·.1) = false := by rfl) : JE X Wx (.Call (.Name C p) (e :: es) [] pos) (mMake C m ma mNil) := by
  obtain ⟨f, F2, hm⟩ := F.ex
  refine ⟨fun pins s σ H Q I ⟨env, S, W, hE, hS, q⟩ => ?_⟩
  refine wpAny_Call_Name_kw (ld_glob I hg F.gm ?_ hdb)
  refine PySem.W.callWith_K (h₀ := X.base) I.ok.mod.kin hm.kp (thn (ha.ja.run pos pins s σ H _ I (make_go (ks := []) hE hS q ha jk_nil)) fun us s1 ⟨vs, H1, I1, r, q1⟩ => ⟨I1.kIn, ?_⟩) he hpl
  obtain ⟨env2, S2, W2, hE2, hS2, q2⟩ := q1
  obtain ⟨l1, _, q3⟩ := q2 W2 H1 [] .refl hS2 rfl
  exact run_make (ks := []) (ws := []) hm F2 (c.hr.mono hk) c.tk I1 r .nil l1 rfl q3
/-- C() -/
theorem je_make0 (c : Ctx X Wx j) (F : Mkr X.prog X.w X.K X.mg X.base k C 0 [] m) (hk : k + 1 ≤ j) (hg : Gl X C := by rfl) (hdb : (C == ("__debug__" : Str)) = false := by decide) : JE X Wx (.Call (.Name C p) [] [] pos) (mMake C m mNil mNil) := by
  obtain ⟨f, F2, hm⟩ := F.ex
  refine ⟨fun pins s σ H Q I ⟨env, S, W, hE, hS, q⟩ => ?_⟩
  refine wpAny_Call_Name_kw (ld_glob I hg F.gm ?_ hdb)
  exact PySem.W.callWith_K0 I.kIn hm.kp (run_make (ks := []) (us := []) (vs := []) (zs := []) (ws := []) hm F2 (c.hr.mono hk) c.tk I .nil .nil rfl rfl ⟨W, S, [], [], hS, rfl, rfl, q⟩)
/-- C(k = v, ..) -/
theorem je_makeK0 (c : Ctx X Wx j) (F : Mkr X.prog X.w X.K X.mg X.base k C 0 ks m) (hk : k + 1 ≤ j) (hkw : JKn X Wx kws mk ks.length) (hg : Gl X C := by rfl) (hdb : (C == ("__debug__" : Str)) = false := by decide)
    (hall : (backToKw pos (keywordEach kws X.env)).all (·.1.isSome) = true := by rfl) (hks : (backToKw pos (keywordEach kws X.env)).filterMap (·.1) = ks := by rfl)
    (hpl : ((backTo pos (starEach [] X.env)).any (·.1) || (backToKw pos (keywordEach kws X.env)).any (·.1.isNone)) = false := by rfl) : JE X Wx (.Call (.Name C p) [] kws pos) (mMake C m mNil mk) := by
  obtain ⟨f, F2, hm⟩ := F.ex
  refine ⟨fun pins s σ H Q I ⟨env, S, W, hE, hS, q⟩ => ?_⟩
  refine wpAny_Call_Name_kw (ld_glob I hg F.gm ?_ hdb)
  refine PySem.W.callWith_KW0 (h₀ := X.base) I.ok.mod.kin hm.kp hall ?_ hpl
  obtain ⟨env2, S2, W2, hE2, hS2, q2⟩ := make_go (es := []) hE hS q jn_nil hkw
  have q3 := q2 W2 H [] .refl hS2 rfl
  refine thn (hkw.jk.run pos pins s σ H _ I q3) fun ws s2 ⟨zs, H2, I2, rz, _, l2, q4⟩ => ⟨I2.kIn, ?_⟩
  rw [hks]
  exact run_make (us := []) (vs := []) hm F2 (c.hr.mono hk) c.tk I2 .nil rz rfl l2 q4
end
end JL
/-! J4: operators, containers, built-ins. -/
namespace JL
open PySem PySem.Spec L2

/-! ### reading data -/
def nc : Dat → Bool
  | .cell _ => false
  | _ => true
def lstOf (d : Dat) (S : Sto) : Option (List Dat) := match d with
  | .lst ds => some ds
  | .cell l => (match S[l]? with
    | some (some (.lst ds)) => some ds
    | _ => none)
  | _ => none
def dctOf (d : Dat) (S : Sto) : Option (List (Key × Dat)) := match d with
  | .dct es => some es
  | .cell l => (match S[l]? with
    | some (some (.dct es)) => some es
    | _ => none)
  | _ => none
def keyOf : Dat → Option Key
  | .int i => some (.inl i)
  | .str s => some (.inr s)
  | _ => none
section
variable {K : PySem.W.Frag} {W : Wd} {S : Sto} {H : Hp}
theorem RepV.pure {d : Dat} {v : V} (r : RepV K W d v) (h : nc d = true) : Rep K W.G d v := by
  rcases r with ⟨l, a, rfl, _⟩ | r
  · cases h
  · exact r
theorem RepVs.pure : ∀ {ds : List Dat} {vs : List V}, RepVs K W ds vs → ds.all nc = true → Reps K W.G ds vs
  | [], _, h, _ => h
  | d :: ds, _, ⟨x, r, e, h1, h2⟩, hn => by
    rw [List.all_cons, Bool.and_eq_true] at hn
    exact ⟨x, r, e, h1.pure hn.1, RepVs.pure h2 hn.2⟩
theorem lstOf_at {d : Dat} {v : V} {ds : List Dat} (hS : SimS K W S H) (r : RepV K W d v) (h : lstOf d S = some ds) : ∃ a xs, v = .ref a ∧ SqL K H a xs ∧ Reps K W.G ds xs := by
  unfold lstOf at h
  cases d with
  | lst g =>
    cases h
    obtain ⟨a, xs, h1, h2, h3⟩ := r.lst
    exact ⟨a, xs, h1, hS.l h2, h3⟩
  | cell l =>
    obtain ⟨a, h1, h2⟩ := r.cell
    simp only at h
    split at h
    · rename_i g hl
      cases h
      obtain ⟨b, o, h3, h4, h5, xs, h6, h7⟩ := hS.cel l _ hl
      rw [h1] at h3
      cases h3
      subst h6
      exact ⟨a, xs, h2, SqL.of h5, h7⟩
    · cases h
  | _ => cases h
theorem dctOf_at {d : Dat} {v : V} {ds : List (Key × Dat)} (hS : SimS K W S H) (r : RepV K W d v) (h : dctOf d S = some ds) : ∃ a xs, v = .ref a ∧ Rd H a (.dK xs) ∧ RepK K W.G ds xs := by
  unfold dctOf at h
  cases d with
  | dct g =>
    cases h
    obtain ⟨a, xs, h1, h2, h3⟩ := r.dct
    exact ⟨a, xs, h1, hS.rd h2, h3⟩
  | cell l =>
    obtain ⟨a, h1, h2⟩ := r.cell
    simp only at h
    split at h
    · rename_i g hl
      cases h
      obtain ⟨b, o, h3, h4, h5, xs, h6, h7⟩ := hS.cel l _ hl
      rw [h1] at h3
      cases h3
      subst h6
      exact ⟨a, xs, h2, .inl h5, h7⟩
    · cases h
  | _ => cases h
theorem keyOf_at {d : Dat} {v : V} {k : Key} (r : RepV K W d v) (h : keyOf d = some k) : v = kV k := by
  cases d with
  | int i => cases h; exact r.int
  | str i => cases h; exact r.str
  | _ => cases h
/-- a new immutable object -/
theorem SimS.new {p : Addr} {o : HO} (h : SimS K W S H) (hp : H p = none) : SimS K ⟨upd W.G p o, W.cs⟩ S (upd H p o) := by
  have hg : W.G p = none := by
    cases q : W.G p with
    | none => rfl
    | some u => exact absurd hp (h.ex q)
  refine ⟨fun a u e => ?_, h.len, h.nd, fun l d hl => ?_, fun a ha => ?_⟩
  · have e : upd W.G p o a = some u := e
    by_cases z : a = p
    · subst z
      rw [upd_same] at e ⊢
      exact e
    · rw [upd_ne z] at e ⊢
      exact h.sub a u e
  · obtain ⟨a, u, h1, h2, h3, h4⟩ := h.cel l d hl
    have ne : a ≠ p := ne_of_none h3 hp
    exact ⟨a, u, h1, (upd_ne ne).trans h2, (upd_ne ne).trans h3, h4.mono (ExtG.new hg)⟩
  · intro z
    by_cases e : a = p
    · subst e
      exact h.trk a ha hp
    · rw [upd_ne e] at z
      exact h.trk a ha z
theorem Stp.new {p : Addr} {o : HO} (h : SimS K W S H) (hp : H p = none) : Stp W H ⟨upd W.G p o, W.cs⟩ (upd H p o) := by
  have hg : W.G p = none := by
    cases q : W.G p with
    | none => rfl
    | some u => exact absurd hp (h.ex q)
  exact ⟨⟨ExtG.new hg, [], by simp⟩, fun a u e g n => ⟨(upd_ne (ne_of_none e hp)).trans e, (upd_ne (ne_of_none e hp)).trans g, n⟩⟩
/-- .. handed on -/
theorem post_new {Wx : WX} {σ : St} {Q : VK} {d : Dat} {o : HO} (hS : SimS K W S H) (q : PostE K W H Wx σ (.ok d S) Q) {p : Addr} (hp : H p = none) (hd : ∀ G, ExtG W.G G → G p = some o → Rep K G d (.ref p)) : Q (.ref p) (upd H p o) := by
  have hg : W.G p = none := by
    cases q : W.G p with
    | none => rfl
    | some u => exact absurd hp (hS.ex q)
  exact q _ _ _ (Stp.new hS hp) (hS.new hp) (.inr (hd _ (ExtG.new hg) upd_same))
end
section
variable {X : Cx} {Wx : WX} {j k n : Nat} {x : Str} {p pos apos cpos : Pos} {e o a b : Expr} {es : List Expr} {ma : DA} {mo m1 m2 : DE}
/-! ### displays -/
def mLst (ma : DA) : DE := fun env S => (ma env S).bind fun ds S1 => if ds.all nc = true then .ok (.lst ds) S1 else .stk
def mTup (ma : DA) : DE := fun env S => (ma env S).bind fun ds S1 => if ds.all nc = true then .ok (.tup ds) S1 else .stk
/-- a list that will be changed: a new cell -/
def mCel (ma : DA) : DE := fun env S => (ma env S).bind fun ds S1 => if ds.all nc = true then .ok (.cell S1.length) (S1 ++ [some (.lst ds)]) else .stk
theorem post_bindA {K : PySem.W.Frag} {W : Wd} {H : Hp} {σ : St} {o : Out (List Dat)} {g : List Dat → Sto → Out Dat} {Q : VK} {R : List V → Hp → Prop} (q : PostE K W H Wx σ (o.bind g) Q)
    (k : ∀ ds S1 W1 H1 vs, o = .ok ds S1 → Stp W H W1 H1 → SimS K W1 S1 H1 → RepVs K W1 ds vs → PostE K W1 H1 Wx σ (g ds S1) Q → R vs H1) : PostA K W H Wx σ o R := by
  cases o with
  | stk => exact q.elim
  | rz ex S1 => exact q
  | ok c S1 => exact fun W1 H1 v e1 s1 r => k c S1 W1 H1 v rfl e1 s1 r (PostE.mono (o := g c S1) e1 q)
theorem je_lst (ha : JAn X Wx es ma n) (hn : n ≤ 100000 := by decide) : JE X Wx (.List es pos) (mLst ma) :=
  PE.weak (pe_lst ha.ja) fun σ H Q ⟨env, S, W, hE, hS, q⟩ => ⟨env, S, W, hE, hS, post_bindA q fun ds S1 W1 H1 vs ho _ s1 r q1 => by
    by_cases h : ds.all nc = true
    · rw [if_pos h] at q1
      have rp := r.pure h
      refine ⟨Nat.le_trans (by rw [r.length, ha.len _ _ _ _ ho]; exact hn) (by decide : 100000 ≤ sizeLine), fun p hp => post_new s1 q1 hp fun G eg hg => ⟨p, vs, rfl, hg, rp.mono eg⟩⟩
    · rw [if_neg h] at q1
      exact q1.elim⟩
theorem je_tup {kk : Nat} (ha : JAn X Wx es ma n) (hn : n ≤ 100000 := by decide) : JE X Wx (.Tuple es kk pos) (mTup ma) :=
  PE.weak (pe_tup ha.ja) fun σ H Q ⟨env, S, W, hE, hS, q⟩ => ⟨env, S, W, hE, hS, post_bindA q fun ds S1 W1 H1 vs ho _ s1 r q1 => by
    by_cases h : ds.all nc = true
    · rw [if_pos h] at q1
      have rp := r.pure h
      refine ⟨Nat.le_trans (by rw [r.length, ha.len _ _ _ _ ho]; exact hn) (by decide : 100000 ≤ sizeLine), fun p hp => post_new s1 q1 hp fun G eg hg => ⟨p, vs, rfl, SqT.of hg, rp.mono eg⟩⟩
    · rw [if_neg h] at q1
      exact q1.elim⟩
theorem post_cell {K : PySem.W.Frag} {W : Wd} {S : Sto} {H : Hp} {σ : St} {Q : VK} {d : Dat} {o : HO} (hS : SimS K W S H) (q : PostE K W H Wx σ (.ok (.cell S.length) (S ++ [some d])) Q) {p : Addr} (hp : H p = none) (hd : CellOk K W.G d o) : Q (.ref p) (upd H p o) := by
  refine q ⟨W.G, W.cs ++ [p]⟩ _ _ ⟨⟨.refl, _, rfl⟩, fun a u e g nn => ⟨(upd_ne (ne_of_none e hp)).trans e, g, fun z => ?_⟩⟩ (hS.push (Ext.new hp) hp upd_same hd) (.inl ⟨S.length, p, rfl, ?_, rfl⟩)
  · rcases List.mem_append.mp z with z | z
    · exact nn z
    · have z : a = p := by simpa using z
      subst z
      rw [hp] at e
      cases e
  · show (W.cs ++ [p])[S.length]? = some p
    rw [hS.len, List.getElem?_append_right (Nat.le_refl _), Nat.sub_self]
    rfl
theorem je_cel (ha : JAn X Wx es ma n) (hn : n ≤ 100000 := by decide) : JE X Wx (.List es pos) (mCel ma) :=
  PE.weak (pe_lst ha.ja) fun σ H Q ⟨env, S, W, hE, hS, q⟩ => ⟨env, S, W, hE, hS, post_bindA q fun ds S1 W1 H1 vs ho _ s1 r q1 => by
    by_cases h : ds.all nc = true
    · rw [if_pos h] at q1
      refine ⟨Nat.le_trans (by rw [r.length, ha.len _ _ _ _ ho]; exact hn) (by decide : 100000 ≤ sizeLine), fun p hp => post_cell s1 q1 hp ⟨vs, rfl, r.pure h⟩⟩
    · rw [if_neg h] at q1
      exact q1.elim⟩
/-- {} that will be changed -/
def mCelD : DE := fun _ S => .ok (.cell S.length) (S ++ [some (.dct [])])
theorem je_celD : JE X Wx (.Dict [] [] pos) mCelD :=
  PE.weak pe_dnewK fun σ H Q ⟨env, S, W, hE, hS, q⟩ p hp => post_cell hS q hp ⟨[], rfl, rfl⟩
/-! ### operators -/
def dI2 (C : Int → Int → Bool) (g : Int → Int → Dat) : Dat → Dat → Sto → Out Dat := fun a b S => match a, b with
  | .int i, .int j => if C i j = true then .ok (g i j) S else .stk
  | _, _ => .stk
theorem opj_I {C : Int → Int → Prop} {Cb : Int → Int → Bool} {g : Int → Int → V} {gd : Int → Int → Dat} (hC : ∀ i j, Cb i j = true → C i j) (hg : ∀ K G i j, Rep K G (gd i j) (g i j)) : OpJ X Wx (rI C g) (dI2 Cb gd) := fun W S σ H x y a b Q hS rx ry q => by
  unfold dI2 at q
  split at q
  · rename_i i j
    cases rx.int
    cases ry.int
    by_cases h : Cb i j = true
    · rw [if_pos h] at q
      exact ⟨i, j, rfl, rfl, hC i j h, q W H _ .refl hS (.inr (hg _ _ _ _))⟩
    · rw [if_neg h] at q
      exact q.elim
  · exact q.elim
theorem opj_I0 {g : Int → Int → V} {gd : Int → Int → Dat} (hg : ∀ K G i j, Rep K G (gd i j) (g i j)) : OpJ X Wx (rI0 g) (dI2 (fun _ _ => true) gd) := fun W S σ H x y a b Q hS rx ry q => by
  unfold dI2 at q
  split at q
  · rename_i i j
    cases rx.int
    cases ry.int
    exact ⟨i, j, rfl, rfl, q W H _ .refl hS (.inr (hg _ _ _ _))⟩
  · exact q.elim
abbrev dAdd := dI2 (fun _ _ => true) fun i j => .int (i + j)
abbrev dSub := dI2 (fun _ _ => true) fun i j => .int (i - j)
def mulOk (i j : Int) : Bool := decide (i.natAbs.log2 + j.natAbs.log2 < 1000000)
abbrev dMul := dI2 mulOk fun i j => .int (i * j)
def divOk (_ j : Int) : Bool := decide (0 < j) && decide (j.natAbs.log2 < 9000)
abbrev dFdiv := dI2 divOk fun i j => .int (i / j)
abbrev dMod := dI2 (fun _ j => decide (0 < j)) fun i j => .int (i % j)
def powOk (i j : Int) : Bool := decide (0 ≤ j) && (decide (j ≤ 1000000) && decide (i.natAbs < 2 ^ 64))
abbrev dPow := dI2 powOk fun i j => .int (i ^ j.toNat)
abbrev dLt := dI2 (fun _ _ => true) fun i j => .bl (decide (i < j))
abbrev dLe := dI2 (fun _ _ => true) fun i j => .bl (decide (i ≤ j))
abbrev dGt := dI2 (fun _ _ => true) fun i j => .bl (decide (j < i))
abbrev dGe := dI2 (fun _ _ => true) fun i j => .bl (decide (j ≤ i))
theorem je_add (ha : JE X Wx a m1) (hb : JE X Wx b m2) : JE X Wx (.BinOp a .Add b pos) (mBin dAdd m1 m2) := je_op op_add (opj_I0 fun _ _ _ _ => rfl) ha hb
theorem je_sub (ha : JE X Wx a m1) (hb : JE X Wx b m2) : JE X Wx (.BinOp a .Sub b pos) (mBin dSub m1 m2) := je_op op_sub (opj_I0 fun _ _ _ _ => rfl) ha hb
theorem je_mul (ha : JE X Wx a m1) (hb : JE X Wx b m2) : JE X Wx (.BinOp a .Mult b pos) (mBin dMul m1 m2) := je_op op_mulW (opj_I (C := CMulW) (Cb := mulOk) (fun i j h => by
  unfold mulOk at h
  have h2 := of_decide_eq_true h
  exact h2) fun _ _ _ _ => rfl) ha hb
theorem je_fdiv (ha : JE X Wx a m1) (hb : JE X Wx b m2) : JE X Wx (.BinOp a .FloorDiv b pos) (mBin dFdiv m1 m2) := je_op op_fdivW (opj_I (fun i j h => by
  unfold divOk at h
  rw [Bool.and_eq_true] at h
  exact ⟨of_decide_eq_true h.1, of_decide_eq_true h.2⟩) fun _ _ _ _ => rfl) ha hb
theorem je_mod (ha : JE X Wx a m1) (hb : JE X Wx b m2) : JE X Wx (.BinOp a .Mod b pos) (mBin dMod m1 m2) := je_op op_mod (opj_I (fun i j h => of_decide_eq_true h) fun _ _ _ _ => rfl) ha hb
theorem je_pow (ha : JE X Wx a m1) (hb : JE X Wx b m2) : JE X Wx (.BinOp a .Pow b pos) (mBin dPow m1 m2) := je_op op_pow (opj_I (fun i j h => by
  unfold powOk at h
  rw [Bool.and_eq_true, Bool.and_eq_true] at h
  exact ⟨of_decide_eq_true h.1, of_decide_eq_true h.2.1, of_decide_eq_true h.2.2⟩) fun _ _ _ _ => rfl) ha hb
theorem oj_lt : OpJ X Wx (rI0 fun i j => .bl (decide (i < j))) dLt := opj_I0 fun _ _ _ _ => rfl
theorem oj_le : OpJ X Wx (rI0 fun i j => .bl (decide (i ≤ j))) dLe := opj_I0 fun _ _ _ _ => rfl
theorem oj_gt : OpJ X Wx (rI0 fun i j => .bl (decide (j < i))) dGt := opj_I0 fun _ _ _ _ => rfl
theorem oj_ge : OpJ X Wx (rI0 fun i j => .bl (decide (j ≤ i))) dGe := opj_I0 fun _ _ _ _ => rfl
/-- == of scalars -/
def eqS : Dat → Dat → Option Bool
  | .non, .non => some true
  | .non, .int _ => some false
  | .int _, .non => some false
  | .non, .bl _ => some false
  | .bl _, .non => some false
  | .non, .str _ => some false
  | .str _, .non => some false
  | .int i, .int j => some (decide (i = j))
  | .bl i, .bl j => some (decide (i = j))
  | .str i, .str j => some (decide (i = j))
  | .int _, .str _ => some false
  | .str _, .int _ => some false
  | .bl _, .str _ => some false
  | .str _, .bl _ => some false
  | _, _ => none
def dEq : Dat → Dat → Sto → Out Dat := fun a b S => match eqS a b with
  | some r => .ok (.bl r) S
  | none => .stk
def dNe : Dat → Dat → Sto → Out Dat := fun a b S => match eqS a b with
  | some r => .ok (.bl (!r)) S
  | none => .stk
theorem eqS_at {K : PySem.W.Frag} {W : Wd} {a b : Dat} {x y : V} {r : Bool} (rx : RepV K W a x) (ry : RepV K W b y) (h : eqS a b = some r) : scal x y = true ∧ decide (x = y) = r := by
  cases a <;> cases b <;> (try (cases h)) <;>
    first
      | (cases rx.non; cases ry.non; exact ⟨rfl, rfl⟩)
      | (cases rx.non; cases ry.int; exact ⟨rfl, rfl⟩)
      | (cases rx.int; cases ry.non; exact ⟨rfl, rfl⟩)
      | (cases rx.non; cases ry.bl; exact ⟨rfl, rfl⟩)
      | (cases rx.bl; cases ry.non; exact ⟨rfl, rfl⟩)
      | (cases rx.non; cases ry.str; exact ⟨rfl, rfl⟩)
      | (cases rx.str; cases ry.non; exact ⟨rfl, rfl⟩)
      | (cases rx.int; cases ry.str; exact ⟨rfl, rfl⟩)
      | (cases rx.str; cases ry.int; exact ⟨rfl, rfl⟩)
      | (cases rx.bl; cases ry.str; exact ⟨rfl, rfl⟩)
      | (cases rx.str; cases ry.bl; exact ⟨rfl, rfl⟩)
      | (cases rx.int; cases ry.int; exact ⟨rfl, by simp⟩)
      | (cases rx.bl; cases ry.bl; exact ⟨rfl, by simp⟩)
      | (cases rx.str; cases ry.str; exact ⟨rfl, by simp⟩)
theorem oj_eq : OpJ X Wx rEq dEq := fun W S σ H x y a b Q hS rx ry q => by
  unfold dEq at q
  cases h : eqS a b with
  | none => rw [h] at q; exact q.elim
  | some r =>
    rw [h] at q
    obtain ⟨h1, h2⟩ := eqS_at rx ry h
    exact ⟨h1, by rw [h2]; exact q W H _ .refl hS (.inr rfl)⟩
theorem oj_ne : OpJ X Wx rNe dNe := fun W S σ H x y a b Q hS rx ry q => by
  unfold dNe at q
  cases h : eqS a b with
  | none => rw [h] at q; exact q.elim
  | some r =>
    rw [h] at q
    obtain ⟨h1, h2⟩ := eqS_at rx ry h
    exact ⟨h1, by rw [h2]; exact q W H _ .refl hS (.inr rfl)⟩
/-- is None -/
def isNon : Dat → Bool
  | .non => true
  | _ => false
theorem isNon_at {K : PySem.W.Frag} {W : Wd} {a : Dat} {x : V} (rx : RepV K W a x) : decide (x = .non) = isNon a := by
  cases a with
  | non => cases rx.non; rfl
  | bl _ => cases rx.bl; rfl
  | int _ => cases rx.int; rfl
  | str _ => cases rx.str; rfl
  | lst _ => obtain ⟨_, _, rfl, _⟩ := rx.lst; rfl
  | tup _ => obtain ⟨_, _, rfl, _⟩ := rx.tup; rfl
  | dct _ => obtain ⟨_, _, rfl, _⟩ := rx.dct; rfl
  | ins _ _ => obtain ⟨_, _, _, rfl, _⟩ := rx.ins; rfl
  | cell _ => obtain ⟨_, _, rfl⟩ := rx.cell; rfl
  | ty _ =>
    rcases rx with ⟨_, _, h, _⟩ | h
    · cases h
    · cases (show x = _ from h); rfl
  | glo _ =>
    rcases rx with ⟨_, _, h, _⟩ | h
    · cases h
    · cases (show x = _ from h); rfl
  | rol _ =>
    rcases rx with ⟨_, _, h, _⟩ | h
    · cases h
    · obtain ⟨_, _, rfl, _⟩ := h; rfl
def mIsN (m : DE) : DE := fun env S => (m env S).bind fun d S1 => .ok (.bl (isNon d)) S1
def mNotN (m : DE) : DE := fun env S => (m env S).bind fun d S1 => .ok (.bl (!isNon d)) S1
theorem tE_isN {σ : St} {H : Hp} {Q : VK} (h : tE X.K Wx (mIsN m1) σ H Q) : tIsN (tE X.K Wx m1) σ H Q := by
  obtain ⟨env, S, W, hE, hS, q⟩ := h
  exact tE_bind hE hS q fun d S1 W1 H1 v _ s1 r q1 => by
    rw [isNon_at r]
    exact q1 W1 H1 _ .refl s1 (.inr rfl)
theorem tE_notN {σ : St} {H : Hp} {Q : VK} (h : tE X.K Wx (mNotN m1) σ H Q) : tNotN (tE X.K Wx m1) σ H Q := by
  obtain ⟨env, S, W, hE, hS, q⟩ := h
  exact tE_bind hE hS q fun d S1 W1 H1 v _ s1 r q1 => by
    rw [isNon_at r]
    exact q1 W1 H1 _ .refl s1 (.inr rfl)
theorem je_isN {kk : Nat} {p2 : Pos} (h : JE X Wx a m1) : JE X Wx (.Compare a [.Is] [.Constant .none kk p2] pos) (mIsN m1) := PE.weak (pe_cmp (pc_isN h)) fun _ _ _ => tE_isN
theorem je_notN {kk : Nat} {p2 : Pos} (h : JE X Wx a m1) : JE X Wx (.Compare a [.IsNot] [.Constant .none kk p2] pos) (mNotN m1) := PE.weak (pe_cmp (pc_notN h)) fun _ _ _ => tE_notN
theorem tB_of {t : TE} {m : DE} {σ : St} {H : Hp} {Q : Bool → Hp → Prop} (ht : ∀ Q, tE X.K Wx m σ H Q → t σ H Q) (h : tT X.K Wx (mTest m) σ H Q) : tB t σ H Q := by
  obtain ⟨env, S, W, hE, hS, q⟩ := h
  exact ht _ ⟨env, S, W, hE, hS, post_test q⟩
theorem jt_isN {kk : Nat} {p2 : Pos} (h : JE X Wx a m1) : JT X Wx (.Compare a [.Is] [.Constant .none kk p2] pos) (mTest (mIsN m1)) := PT.weak (pt_cmp (pc_isN h)) fun _ _ _ => tB_of fun _ => tE_isN
theorem jt_notN {kk : Nat} {p2 : Pos} (h : JE X Wx a m1) : JT X Wx (.Compare a [.IsNot] [.Constant .none kk p2] pos) (mTest (mNotN m1)) := PT.weak (pt_cmp (pc_notN h)) fun _ _ _ => tB_of fun _ => tE_notN
/-- x in a list, a tuple, of flat items -/
def flatD : Dat → Bool
  | .non => true
  | .bl _ => true
  | .int _ => true
  | .str _ => true
  | _ => false
def eqD : Dat → Dat → Bool
  | .non, .non => true
  | .bl a, .bl b => a == b
  | .bl a, .int b => (if a then 1 else 0) == b
  | .int a, .bl b => a == (if b then 1 else 0)
  | .int a, .int b => a == b
  | .str a, .str b => a == b
  | _, _ => false
def flatTo : Dat → V
  | .non => .non
  | .bl b => .bl b
  | .int i => .int i
  | .str s => .str s
  | _ => .non
theorem flat_at {K : PySem.W.Frag} {W : Wd} {d : Dat} {v : V} (r : RepV K W d v) (h : flatD d = true) : v = flatTo d ∧ flatV v = true := by
  cases d with
  | non => cases r.non; exact ⟨rfl, rfl⟩
  | bl _ => cases r.bl; exact ⟨rfl, rfl⟩
  | int _ => cases r.int; exact ⟨rfl, rfl⟩
  | str _ => cases r.str; exact ⟨rfl, rfl⟩
  | _ => cases h
theorem eqD_at : ∀ {a b : Dat}, flatD a = true → flatD b = true → eqV (flatTo a) (flatTo b) = eqD a b := by
  intro a b ha hb
  cases a <;> (try cases ha) <;> cases b <;> (try cases hb) <;> rfl
def inD (x : Dat) (ds : List Dat) : Bool := ds.any fun y => eqD y x
theorem flats_at {K : PySem.W.Frag} {W : Wd} : ∀ {ds : List Dat} {xs : List V}, Reps K W.G ds xs → ds.all flatD = true → xs = ds.map flatTo ∧ xs.all flatV = true
  | [], _, h, _ => by cases h; exact ⟨rfl, rfl⟩
  | d :: ds, _, ⟨x, r, e, h1, h2⟩, hf => by
    rw [List.all_cons, Bool.and_eq_true] at hf
    obtain ⟨e1, f1⟩ := flat_at (W := W) (.inr h1) hf.1
    obtain ⟨e2, f2⟩ := flats_at h2 hf.2
    subst e
    exact ⟨by rw [e1, e2]; rfl, by rw [List.all_cons, f1, f2]; rfl⟩
theorem inD_at {x : Dat} : ∀ {ds : List Dat}, flatD x = true → ds.all flatD = true → inV (flatTo x) (ds.map flatTo) = inD x ds
  | [], _, _ => rfl
  | d :: ds, hx, hf => by
    rw [List.all_cons, Bool.and_eq_true] at hf
    have ih := inD_at (x := x) (ds := ds) hx hf.2
    unfold inV inD at ih ⊢
    rw [List.map_cons, List.any_cons, List.any_cons, ih, eqD_at hf.1 hx]
def seqOf (d : Dat) (S : Sto) : Option (List Dat) := match d with
  | .tup ds => some ds
  | .rol ds => some ds
  | d => lstOf d S
theorem seqOf_at {K : PySem.W.Frag} {W : Wd} {S : Sto} {H : Hp} {d : Dat} {v : V} {ds : List Dat} (hS : SimS K W S H) (r : RepV K W d v) (h : seqOf d S = some ds) : ∃ a xs, v = .ref a ∧ (SqL K H a xs ∨ SqT K H a xs) ∧ Reps K W.G ds xs := by
  by_cases ht : ∃ es, d = .tup es
  · obtain ⟨es, rfl⟩ := ht
    have h : some es = some ds := h
    cases h
    obtain ⟨a, xs, h1, h2, h3⟩ := r.tup
    exact ⟨a, xs, h1, .inr (hS.t h2), h3⟩
  · by_cases hr : ∃ es, d = .rol es
    · obtain ⟨es, rfl⟩ := hr
      have h : some es = some ds := h
      cases h
      obtain ⟨a, xs, h1, h2, h3⟩ := r.pure rfl
      exact ⟨a, xs, h1, .inl (hS.l h2), h3⟩
    · have h : lstOf d S = some ds := by
        cases d with
        | tup es => exact absurd ⟨es, rfl⟩ ht
        | rol es => exact absurd ⟨es, rfl⟩ hr
        | _ => exact h
      obtain ⟨a, xs, h1, h2, h3⟩ := lstOf_at hS r h
      exact ⟨a, xs, h1, .inl h2, h3⟩
def dIn (neg : Bool) : Dat → Dat → Sto → Out Dat := fun x y S => match seqOf y S with
  | some ds => if (flatD x && ds.all flatD) = true then .ok (.bl (if neg then !inD x ds else inD x ds)) S else .stk
  | none => .stk
theorem oj_in (neg : Bool) : OpJ X Wx (rIn X.K neg) (dIn neg) := fun W S σ H x y a b Q hS rx ry q => by
  unfold dIn at q
  cases h : seqOf b S with
  | none => rw [h] at q; exact q.elim
  | some ds =>
    simp only [h] at q
    by_cases hf : (flatD a && ds.all flatD) = true
    · rw [if_pos hf] at q
      rw [Bool.and_eq_true] at hf
      obtain ⟨p, xs, h1, h2, h3⟩ := seqOf_at hS ry h
      obtain ⟨e1, f1⟩ := flat_at rx hf.1
      obtain ⟨e2, f2⟩ := flats_at h3 hf.2
      refine ⟨p, xs, h1, h2, f1, f2, ?_⟩
      rw [e1, e2, inD_at hf.1 hf.2]
      exact q W H _ .refl hS (.inr rfl)
    · rw [if_neg hf] at q
      exact q.elim
/-- a text in a text -/
def dInS (neg : Bool) : Dat → Dat → Sto → Out Dat := fun x y S => match x, y with
  | .str i, .str j => .ok (.bl (if neg then !(!(Builtin.Str.occurrences j i 0 j.length 1).isEmpty) else !(Builtin.Str.occurrences j i 0 j.length 1).isEmpty)) S
  | _, _ => .stk
theorem oj_inS : OpJ X Wx (fun x y H Q => ∃ i j, x = .str i ∧ y = .str j ∧ Q (.bl (!(Builtin.Str.occurrences j i 0 j.length 1).isEmpty)) H) (dInS false) := fun W S σ H x y a b Q hS rx ry q => by
  unfold dInS at q
  split at q
  · cases rx.str
    cases ry.str
    exact ⟨_, _, rfl, rfl, q W H _ .refl hS (.inr rfl)⟩
  · exact q.elim
/-! ### subscripts -/
def dIx : Dat → Dat → Sto → Out Dat := fun x y S => match y with
  | .int i => (match seqOf x S with
    | some ds => (match atI ds i with
      | some d => .ok d S
      | none => .stk)
    | none => .stk)
  | _ => .stk
theorem Reps.atI {K : PySem.W.Frag} {G : Hp} {ds : List Dat} {xs : List V} {i : Int} {d : Dat} (r : Reps K G ds xs) (h : L2.atI ds i = some d) : ∃ v, L2.atI xs i = some v ∧ Rep K G d v := by
  unfold L2.atI at h ⊢
  rw [r.length]
  cases hj : ixN ds.length i with
  | none => rw [hj] at h; cases h
  | some j =>
    rw [hj] at h
    have h : ds[j]? = some d := h
    have go : ∀ {ds : List Dat} {xs : List V} {j : Nat} {d : Dat}, Reps K G ds xs → ds[j]? = some d → ∃ v, xs[j]? = some v ∧ Rep K G d v := by
      intro ds
      induction ds with
      | nil => intro xs j d _ h; simp at h
      | cons d0 ds ih =>
        intro xs j d ⟨x, r, e, h1, h2⟩ h
        subst e
        cases j with
        | zero =>
          have h : d0 = d := by simpa using h
          subst h
          exact ⟨x, rfl, h1⟩
        | succ j =>
          obtain ⟨v, h3, h4⟩ := ih (xs := r) (j := j) h2 (by simpa using h)
          exact ⟨v, by simpa using h3, h4⟩
    exact go r h
theorem je_ix (ha : JE X Wx a m1) (hb : JE X Wx b m2) (hs : PlainIx b := by exact fun _ _ => rfl) : JE X Wx (.Subscript a b pos) (mBin dIx m1 m2) :=
  PE.weak (pe_ix ix_seq ha hb hs) fun σ H Q ⟨_, _, _, hE, hS, q⟩ => tE_bin hE hS q fun W' S' H' a b x y _ s rx ry q => by
    unfold dIx at q
    split at q
    · rename_i i
      cases ry.int
      cases h : seqOf a S' with
      | none => rw [h] at q; exact q.elim
      | some ds =>
        simp only [h] at q
        cases h2 : L2.atI ds i with
        | none => rw [h2] at q; exact q.elim
        | some d =>
          rw [h2] at q
          obtain ⟨p, xs, h1, h3, h4⟩ := seqOf_at s rx h
          obtain ⟨v, h5, h6⟩ := h4.atI h2
          have q' := q W' H' v .refl s (.inr h6)
          rcases h3 with h3 | h3
          · exact .inl ⟨p, xs, i, v, h1, rfl, h3, h5, q'⟩
          · exact .inr (.inl ⟨p, xs, i, v, h1, rfl, h3, h5, q'⟩)
    · exact q.elim
/-- d[k] -/
def dLook (es : List (Key × Dat)) (k : Key) : Option Dat := (es.find? fun kv => decide (kv.1 = k)).map (·.2)
theorem RepK.look {K : PySem.W.Frag} {G : Hp} {k : Key} : ∀ {es : List (Key × Dat)} {kvs : List (Key × V)}, RepK K G es kvs → (∀ d, dLook es k = some d → ∃ v, valV kvs k = some v ∧ Rep K G d v) ∧ (dLook es k = none → valV kvs k = none)
  | [], _, h => by
    cases h
    exact ⟨fun d h => (nomatch h), fun _ => rfl⟩
  | (k', d') :: es, _, ⟨v, r, e, h1, h2⟩ => by
    subst e
    have ih := RepK.look (k := k) h2
    unfold dLook valV at ih ⊢
    rw [List.find?_cons, List.find?_cons]
    cases hk : decide (k' = k) with
    | true =>
      refine ⟨fun d e => ?_, fun e => (nomatch e)⟩
      have e : d' = d := Option.some.inj e
      subst e
      exact ⟨v, rfl, h1⟩
    | false => exact ih
def dGet : Dat → Dat → Sto → Out Dat := fun x y S => match dctOf x S, keyOf y with
  | some es, some k => (match dLook es k with
    | some d => .ok d S
    | none => .stk)
  | _, _ => .stk
theorem je_dget (c : Ctx X Wx j) (ha : JE X Wx a m1) (hb : JE X Wx b m2) (hs : NoSl b := by exact fun _ _ => rfl) : JE X Wx (.Subscript a b pos) (mBin dGet m1 m2) :=
  PE.weak (pe_dget (hu_of c.hr) ha hb hs) fun σ H Q ⟨_, _, _, hE, hS, q⟩ => tE_bin hE hS q fun W' S' H' a b x y _ s rx ry q => by
    unfold dGet at q
    split at q
    · rename_i es k h1 h2
      cases h3 : dLook es k with
      | none => rw [h3] at q; exact q.elim
      | some d =>
        rw [h3] at q
        obtain ⟨p, kvs, h4, h5, h6⟩ := dctOf_at s rx h1
        obtain ⟨v, h7, h8⟩ := (RepK.look h6).1 d h3
        exact ⟨p, v, h4, .inl ⟨kvs, k, h5, keyOf_at ry h2, h7.symm⟩, q W' H' v .refl s (.inr h8)⟩
    · exact q.elim
/-- k in d -/
def dInDct (neg : Bool) : Dat → Dat → Sto → Out Dat := fun y x S => match dctOf x S, keyOf y with
  | some es, some k => .ok (.bl (if neg then !(dLook es k).isSome else (dLook es k).isSome)) S
  | _, _ => .stk
theorem dInDct_at {neg : Bool} {W : Wd} {S : Sto} {H : Hp} {σ : St} {x y : V} {a b : Dat} {Q : VK} (s : SimS X.K W S H) (ry : RepV X.K W a y) (rx : RepV X.K W b x) (q : PostE X.K W H Wx σ (dInDct neg a b S) Q) : ∃ p o, x = .ref p ∧ DGet H p y o ∧ Q (.bl (if neg then !o.isSome else o.isSome)) H := by
  unfold dInDct at q
  split at q
  · rename_i es k h1 h2
    obtain ⟨p, kvs, h4, h5, h6⟩ := dctOf_at s rx h1
    have hs : (valV kvs k).isSome = (dLook es k).isSome := by
      obtain ⟨l1, l2⟩ := RepK.look (k := k) h6
      cases h3 : dLook es k with
      | none => rw [l2 h3]; rfl
      | some d =>
        obtain ⟨v, h7, _⟩ := l1 d h3
        rw [h7]; rfl
    refine ⟨p, valV kvs k, h4, .inl ⟨kvs, k, h5, keyOf_at ry h2, rfl⟩, ?_⟩
    rw [hs]
    exact q W H _ .refl s (.inr rfl)
  · exact q.elim
theorem je_din (c : Ctx X Wx j) (ha : JE X Wx a m1) (hb : JE X Wx b m2) (h1 : behindInMarks .In b = false := by rfl) : JE X Wx (.Compare a [.In] [b] pos) (mBin (dInDct false) m1 m2) :=
  PE.weak (pe_cmp (pc_din (hu_of c.hr) ha hb) h1) fun σ H Q ⟨_, _, _, hE, hS, q⟩ => tE_bin hE hS q fun W' S' H' a b x y _ s rx ry q => dInDct_at s rx ry q
theorem je_dnotin (c : Ctx X Wx j) (ha : JE X Wx a m1) (hb : JE X Wx b m2) (h1 : behindInMarks .NotIn b = false := by rfl) : JE X Wx (.Compare a [.NotIn] [b] pos) (mBin (dInDct true) m1 m2) :=
  PE.weak (pe_cmp (pc_dnotin (hu_of c.hr) ha hb) h1) fun σ H Q ⟨_, _, _, hE, hS, q⟩ => tE_bin hE hS q fun W' S' H' a b x y _ s rx ry q => dInDct_at s rx ry q
/-! ### built-ins by name -/
def mB (f : List Dat → Sto → Out Dat) (ma : DA) : DE := fun env S => (ma env S).bind fun ds S1 => f ds S1
def CallJ (X : Cx) (Wx : WX) (r : List V → Hp → VK → Prop) (f : List Dat → Sto → Out Dat) : Prop := ∀ (W : Wd) (S : Sto) (σ : St) (H : Hp) (vs : List V) (ds : List Dat) (Q : VK), SimS X.K W S H → RepVs X.K W ds vs → PostE X.K W H Wx σ (f ds S) Q → r vs H Q
theorem je_callB {id : String} {r : List V → Hp → VK → Prop} {f : List Dat → Sto → Out Dat} (hc : CallR X (.builtin id) r) (hf : CallJ X Wx r f) (hm : X.mg x = none) (hv : bootBuiltins x = some (.builtin id)) (ha : JAn X Wx (e :: es) ma n) (hg : Gl X x := by rfl) (hn : x ≠ "__name__" := by decide) (hd : (x == ("__debug__" : Str)) = false := by decide)
    (he : starEach (e :: es) X.env = (false, eval e X.env) :: starEach es X.env := by rfl) (hpl : (backTo pos (starEach es X.env)).any (·.1) = false := by rfl) : JE X Wx (.Call (.Name x p) (e :: es) [] pos) (mB f ma) :=
  PE.weak (pe_callB hc hg hm hv ha.ja hn hd he hpl) fun σ H Q ⟨env, S, W, hE, hS, q⟩ => ⟨env, S, W, hE, hS, post_bindA q fun ds S1 W1 H1 vs _ _ s1 r q1 => hf W1 S1 σ H1 vs ds Q s1 r q1⟩
theorem je_callTy {T : String} {r : List V → Hp → VK → Prop} {f : List Dat → Sto → Out Dat} (hc : CallR X (.type T) r) (hf : CallJ X Wx r f) (hm : X.mg x = none) (hv : bootBuiltins x = some (.type T)) (ha : JAn X Wx (e :: es) ma n) (hg : Gl X x := by rfl) (hn : x ≠ "__name__" := by decide) (hd : (x == ("__debug__" : Str)) = false := by decide)
    (he : starEach (e :: es) X.env = (false, eval e X.env) :: starEach es X.env := by rfl) (hpl : (backTo pos (starEach es X.env)).any (·.1) = false := by rfl) : JE X Wx (.Call (.Name x p) (e :: es) [] pos) (mB f ma) :=
  PE.weak (pe_callTy hc hg hm hv ha.ja hn hd he hpl) fun σ H Q ⟨env, S, W, hE, hS, q⟩ => ⟨env, S, W, hE, hS, post_bindA q fun ds S1 W1 H1 vs _ _ s1 r q1 => hf W1 S1 σ H1 vs ds Q s1 r q1⟩
def dLen : List Dat → Sto → Out Dat := fun ds S => match ds with
  | [d] => (match seqOf d S with
    | some xs => .ok (.int xs.length) S
    | none => (match d with
      | .str z => if z.length ≤ sizeLine then .ok (.int z.length) S else .stk
      | _ => .stk))
  | _ => .stk
theorem cj_len : CallJ X Wx (fun xs H Q => (∃ p ys, xs = [.ref p] ∧ (SqL X.K H p ys ∨ SqT X.K H p ys) ∧ Q (.int ys.length) H) ∨ (∃ z : Str, xs = [.str z] ∧ z.length ≤ sizeLine ∧ Q (.int z.length) H)) dLen := fun W S σ H vs ds Q hS r q => by
  unfold dLen at q
  split at q
  · rename_i d
    obtain ⟨v, rfl, rv⟩ := r.one
    cases h : seqOf d S with
    | some xs =>
      rw [h] at q
      obtain ⟨a, ys, h1, h2, h3⟩ := seqOf_at hS rv h
      exact .inl ⟨a, ys, by rw [h1], h2, by rw [h3.length]; exact q W H _ .refl hS (.inr rfl)⟩
    | none =>
      simp only [h] at q
      cases d with
      | str z =>
        cases rv.str
        simp only at q
        by_cases hz : z.length ≤ sizeLine
        · rw [if_pos hz] at q
          exact .inr ⟨z, rfl, hz, q W H _ .refl hS (.inr rfl)⟩
        · rw [if_neg hz] at q
          exact q.elim
      | _ => exact q.elim
  · exact q.elim
def dAbs : List Dat → Sto → Out Dat := fun ds S => match ds with
  | [.int i] => .ok (.int (if i < 0 then -i else i)) S
  | _ => .stk
theorem cj_abs : CallJ X Wx (fun xs H Q => ∃ i, xs = [.int i] ∧ Q (.int (if i < 0 then -i else i)) H) dAbs := fun W S σ H vs ds Q hS r q => by
  unfold dAbs at q
  split at q
  · obtain ⟨v, rfl, rv⟩ := r.one
    cases rv.int
    exact ⟨_, rfl, q W H _ .refl hS (.inr rfl)⟩
  · exact q.elim
def dMax2 : List Dat → Sto → Out Dat := fun ds S => match ds with
  | [.int i, .int j] => .ok (.int (if j > i then j else i)) S
  | _ => .stk
theorem cj_max2 : CallJ X Wx (fun xs H Q => ∃ i j, xs = [.int i, .int j] ∧ Q (.int (if j > i then j else i)) H) dMax2 := fun W S σ H vs ds Q hS r q => by
  unfold dMax2 at q
  split at q
  · obtain ⟨v, w, rfl, rv, rw'⟩ := r.two
    cases rv.int
    cases rw'.int
    exact ⟨_, _, rfl, q W H _ .refl hS (.inr rfl)⟩
  · exact q.elim
def dMin2 : List Dat → Sto → Out Dat := fun ds S => match ds with
  | [.int i, .int j] => .ok (.int (if j < i then j else i)) S
  | _ => .stk
theorem cj_min2 : CallJ X Wx (fun xs H Q => ∃ i j, xs = [.int i, .int j] ∧ Q (.int (if j < i then j else i)) H) dMin2 := fun W S σ H vs ds Q hS r q => by
  unfold dMin2 at q
  split at q
  · obtain ⟨v, w, rfl, rv, rw'⟩ := r.two
    cases rv.int
    cases rw'.int
    exact ⟨_, _, rfl, q W H _ .refl hS (.inr rfl)⟩
  · exact q.elim
def dInt : List Dat → Sto → Out Dat := fun ds S => match ds with
  | [.int i] => .ok (.int i) S
  | [.bl b] => .ok (.int (if b then 1 else 0)) S
  | _ => .stk
theorem cj_int : CallJ X Wx (fun xs H Q => (∃ i, xs = [.int i] ∧ Q (.int i) H) ∨ ∃ k, xs = [.bl k] ∧ Q (.int (if k then 1 else 0)) H) dInt := fun W S σ H vs ds Q hS r q => by
  unfold dInt at q
  split at q
  · obtain ⟨v, rfl, rv⟩ := r.one
    cases rv.int
    exact .inl ⟨_, rfl, q W H _ .refl hS (.inr rfl)⟩
  · obtain ⟨v, rfl, rv⟩ := r.one
    cases rv.bl
    exact .inr ⟨_, rfl, q W H _ .refl hS (.inr rfl)⟩
  · exact q.elim
end
end JL
/-! J5: what is walked: loops and comprehensions. -/
namespace JL
open PySem PySem.Spec L2

def rngL (lo : Int) (n : Nat) : List Dat := (List.range n).map fun (i : Nat) => .int (lo + (i : Int))
theorem rngL_get {lo : Int} {n i : Nat} (h : i < n) : (rngL lo n)[i]? = some (.int (lo + (i : Int))) := by
  unfold rngL
  rw [List.getElem?_map, List.getElem?_range h]
  rfl
theorem rngL_len {lo : Int} {n : Nat} : (rngL lo n).length = n := by
  unfold rngL
  rw [List.length_map, List.length_range]
def ofA (env : Env) (o : Out (List Dat)) (k : List Dat → Sto → Flow) : Flow := match o with
  | .ok d S => k d S
  | .rz ex S => .rz ex env S
  | .stk => .stk
/-- an iterator that gives these data, from the state (W0, H0) on -/
def ItOk (K : PySem.W.Frag) (W0 : Wd) (H0 : Hp) (ds : List Dat) (J : It) : Prop := ∀ (i : Nat) (W1 : Wd) (S1 : Sto) (H1 : Hp), Stp W0 H0 W1 H1 → SimS K W1 S1 H1 →
  (ds.length ≤ i → J.stop i H1) ∧ (∀ d, ds[i]? = some d → J.go i H1 ∧ ∀ x H2, J.yld i H1 x H2 → ∃ W2, Stp W1 H1 W2 H2 ∧ SimS K W2 S1 H2 ∧ RepV K W2 d x)
abbrev DI := DA
def tI (K : PySem.W.Frag) (Wx : WX) (m : DI) : TI := fun σ H R => ∃ env S W, SimE K W env σ ∧ SimS K W S H ∧ (match m env S with
  | .ok ds S' => ∀ W' H' J, Stp W H W' H' → SimS K W' S' H' → ItOk K W' H' ds J → R J H'
  | .rz ex S' => ∀ W' H' cls dd, Stp W H W' H' → SimS K W' S' H' → RepX K W' ex cls dd H' → Wx cls dd σ H'
  | .stk => False)
abbrev JI (X : Cx) (Wx : WX) (tg iter : Expr) (m : DI) : Prop := PI X tg iter (tI X.K Wx m)
theorem PI.weak {X : Cx} {tg iter : Expr} {t t' : TI} (h : PI X tg iter t) (k : ∀ σ H Q, t' σ H Q → t σ H Q) : PI X tg iter t' := ⟨fun pins s σ H Q I q => h.run pins s σ H Q I (k σ H Q q)⟩
section
variable {X : Cx} {Wx : WX} {j k n : Nat} {p pos pos2 apos cpos : Pos} {e a b tg iter : Expr} {es : List Expr} {ma : DA} {mo m1 m2 : DE} {mi : DI}
/-! ### for -/
/-- the state at turn i -/
def ForInv (K : PySem.W.Frag) (Wx : WX) (W : Wd) (H0 : Hp) (g : DG) (body : DS) (ds : List Dat) (D : Ends) (i : Nat) (σ : St) (H : Hp) : Prop :=
  ∃ env S W1, Stp W H0 W1 H ∧ SimE K W1 env σ ∧ SimS K W1 S H ∧ PostS K W1 H Wx (forL g body (ds.drop i) env S) D
theorem for_end {K : PySem.W.Frag} {W : Wd} {g : DG} {body : DS} {ds : List Dat} {D : Ends} {n : Nat} {σ : St} {H0 H : Hp} (hn : ds.length ≤ n) (h : ForInv K Wx W H0 g body ds D n σ H) : D.nx σ H := by
  obtain ⟨env, S, W1, e, hE, hS, q⟩ := h
  rw [List.drop_eq_nil_of_le hn] at q
  exact q W1 σ H .refl hE hS
def sFor (g : DG) (mi : DI) (body : DS) : DS := fun env S => ofA env (mi env S) fun ds S1 => forL g body ds env S1
theorem js_for (c : Ctx X Wx k) {body : List Stmt} {L : List Nat} {g : DG} {mb : DS} (hi : JI X Wx tg iter mi) (hg : JG X tg L g) (hb : JSs X Wx body mb) (hs : ∀ x, foldedSetIterable iter X.env x = pure x := by intro _; rfl) : JS X Wx (.For tg iter body [] pos) (sFor g mi mb) :=
  PS.weak (ps_for c.po c.cm hi hg hb hs) fun D σ H ⟨env, S, W, hE, hS, q⟩ => by
    refine ⟨env, S, W, hE, hS, ?_⟩
    unfold sFor at q
    cases h : mi env S with
    | stk => rw [h] at q; exact q.elim
    | rz ex S' =>
      rw [h] at q
      exact fun W' H' cls dd e s r => q W' σ H' cls dd e (hE.mono e.le) s r
    | ok ds S' =>
      rw [h] at q
      intro W' H' J e s ho
      have q' : PostS X.K W' H' Wx (forL g mb ds env S') D := PostS.mono e q
      refine ⟨fun i m σ1 H1 => m = ds.length - i ∧ i ≤ ds.length ∧ ForInv X.K Wx W' H' g mb ds D i σ1 H1, ⟨_, rfl, Nat.zero_le _, env, S', W', .refl, hE.mono e.le, s, q'⟩, ?_⟩
      rintro i m σ1 H1 ⟨rfl, hi, p⟩
      obtain ⟨env1, S1, W1, e1, hE1, s1, q1⟩ := id p
      obtain ⟨ho1, ho2⟩ := ho i W1 S1 H1 e1 s1
      by_cases hlt : i < ds.length
      · obtain ⟨hgo, hy⟩ := ho2 ds[i] (List.getElem?_eq_getElem hlt)
        refine .inr ⟨hgo, ForInv X.K Wx W' H' g mb ds D (i + 1), fun σ' H2 p' => ⟨_, Nat.sub_lt_sub_left hlt (Nat.lt_succ_self i), rfl, hlt, p'⟩, fun x H2 y => ?_⟩
        obtain ⟨W2, e2, s2, r2⟩ := hy x H2 y
        rw [List.drop_eq_getElem_cons hlt] at q1
        have q2 : PostS X.K W2 H2 Wx (match g ds[i] env1 with
          | none => Flow.stk
          | some e1 => match mb e1 S1 with
            | .nx e2 S2 => forL g mb (ds.drop (i + 1)) e2 S2
            | .ct e2 S2 => forL g mb (ds.drop (i + 1)) e2 S2
            | .bk e2 S2 => .nx e2 S2
            | .rt d S2 => .rt d S2
            | .rz ex e2 S2 => .rz ex e2 S2
            | .stk => .stk) D := PostS.mono e2 q1
        cases h1 : g ds[i] env1 with
        | none => rw [h1] at q2; exact q2.elim
        | some ev =>
          rw [h1] at q2
          refine ⟨env1, ev, S1, W2, ds[i], hE1.mono e2.le, s2, r2, h1, fun σ' hE' _ => ⟨ev, S1, W2, hE', s2, ?_⟩⟩
          cases h2 : mb ev S1 with
          | nx e3 S3 =>
            simp only [h2] at q2
            exact fun W3 σ3 H3 e' hE3 hS3 => ⟨e3, S3, W3, (e1.trans e2).trans e', hE3, hS3, PostS.mono (f := forL g mb (ds.drop (i + 1)) e3 S3) e' q2⟩
          | ct e3 S3 =>
            simp only [h2] at q2
            exact fun W3 σ3 H3 e' hE3 hS3 => ⟨e3, S3, W3, (e1.trans e2).trans e', hE3, hS3, PostS.mono (f := forL g mb (ds.drop (i + 1)) e3 S3) e' q2⟩
          | bk e3 S3 => simp only [h2] at q2; exact q2
          | rt d3 S3 => simp only [h2] at q2; exact q2
          | rz ex e3 S3 => simp only [h2] at q2; exact q2
          | stk => simp only [h2] at q2; exact q2
      · have hi2 : i = ds.length := by omega
        subst hi2
        exact .inl ⟨ho1 (Nat.le_refl _), for_end (Nat.le_refl _) p⟩
/-! ### the iterables -/
theorem tI_ofE {f : Dat → Sto → Option (List Dat)} {m : DE} {σ : St} {H : Hp} {R : It → Hp → Prop} {t : V → Hp → Prop}
    (h : tI X.K Wx (fun env S => (m env S).bind fun d S1 => match f d S1 with | some ds => .ok ds S1 | none => .stk) σ H R)
    (k : ∀ d ds v W1 S1 H1, SimS X.K W1 S1 H1 → RepV X.K W1 d v → f d S1 = some ds → (∀ W2 H2 J, Stp W1 H1 W2 H2 → SimS X.K W2 S1 H2 → ItOk X.K W2 H2 ds J → R J H2) → t v H1) : tE X.K Wx m σ H t := by
  obtain ⟨env, S, W, hE, hS, q⟩ := h
  dsimp only at q
  refine ⟨env, S, W, hE, hS, ?_⟩
  cases h : m env S with
  | stk => rw [h] at q; exact q.elim
  | rz ex S' => rw [h] at q; exact q
  | ok d S' =>
    rw [h] at q
    intro W1 H1 v e1 s1 r1
    simp only [Out.bind] at q
    cases h2 : f d S' with
    | none => rw [h2] at q; exact q.elim
    | some ds =>
      rw [h2] at q
      exact k d ds v W1 S' H1 s1 r1 h2 fun W2 H2 J e2 s2 o => q W2 H2 J (e1.trans e2) s2 o
def lstP : Dat → Sto → Option (List Dat) := fun d _ => match d with
  | .lst ds => some ds
  | _ => none
def tupP : Dat → Sto → Option (List Dat) := fun d _ => match d with
  | .tup ds => some ds
  | _ => none
def miE (f : Dat → Sto → Option (List Dat)) (m : DE) : DI := fun env S => (m env S).bind fun d S1 => match f d S1 with
  | some ds => .ok ds S1
  | none => .stk
theorem Reps.atN {K : PySem.W.Frag} {G : Hp} : ∀ {ds : List Dat} {xs : List V} {i : Nat} {d : Dat}, Reps K G ds xs → ds[i]? = some d → ∃ x, xs[i]? = some x ∧ Rep K G d x
  | [], _, i, d, _, e => by simp at e
  | d0 :: ds, _, 0, d, ⟨x, r, e1, h, t⟩, e => by
    subst e1
    have e : d0 = d := by simpa using e
    subst e
    exact ⟨x, rfl, h⟩
  | d0 :: ds, _, i + 1, d, ⟨x, r, e1, h, t⟩, e => by
    subst e1
    obtain ⟨v, h1, h2⟩ := Reps.atN (i := i) t (by simpa using e)
    exact ⟨v, by simpa using h1, h2⟩
theorem it_list {W : Wd} {H : Hp} {a : Addr} {xs : List V} {ds : List Dat} (h : SqL X.K W.G a xs) (r : Reps X.K W.G ds xs) : ItOk X.K W H ds (Itl X.K a) := fun i W1 S1 H1 e1 s1 => by
  have hq := s1.l (e1.le.G.l h)
  refine ⟨fun hi => ⟨xs, hq, by rw [r.length]; exact hi⟩, fun d hd => ?_⟩
  obtain ⟨x, h1, h2⟩ := r.atN hd
  refine ⟨⟨xs, x, hq, h1⟩, fun y H2 ⟨e, z⟩ => ?_⟩
  subst e
  have hy := z xs hq
  rw [h1] at hy
  cases hy
  exact ⟨W1, .refl, s1, .inr (h2.mono e1.le.G)⟩
theorem it_tup {W : Wd} {H : Hp} {a : Addr} {xs : List V} {ds : List Dat} (h : SqT X.K W.G a xs) (r : Reps X.K W.G ds xs) : ItOk X.K W H ds (Itt X.K a) := fun i W1 S1 H1 e1 s1 => by
  have hq := s1.t (e1.le.G.t h)
  refine ⟨fun hi => ⟨xs, hq, by rw [r.length]; exact hi⟩, fun d hd => ?_⟩
  obtain ⟨x, h1, h2⟩ := r.atN hd
  refine ⟨⟨xs, x, hq, h1⟩, fun y H2 ⟨e, z⟩ => ?_⟩
  subst e
  have hy := z xs hq
  rw [h1] at hy
  cases hy
  exact ⟨W1, .refl, s1, .inr (h2.mono e1.le.G)⟩
theorem ji_list (h : JE X Wx iter m1) : JI X Wx tg iter (miE lstP m1) :=
  PI.weak (pi_list h) fun σ H R q => tI_ofE q fun d ds v W1 S1 H1 s1 r1 hf k => by
    cases d with
    | lst g =>
      cases hf
      obtain ⟨a, xs, rfl, h2, h3⟩ := r1.lst
      exact ⟨a, rfl, ⟨xs, s1.l h2⟩, k W1 H1 _ .refl s1 (it_list h2 h3)⟩
    | _ => cases hf
theorem ji_tup (h : JE X Wx iter m1) : JI X Wx tg iter (miE tupP m1) :=
  PI.weak (pi_tup h) fun σ H R q => tI_ofE q fun d ds v W1 S1 H1 s1 r1 hf k => by
    cases d with
    | tup g =>
      cases hf
      obtain ⟨a, xs, rfl, h2, h3⟩ := r1.tup
      exact ⟨a, rfl, ⟨xs, s1.t h2⟩, k W1 H1 _ .refl s1 (it_tup h2 h3)⟩
    | _ => cases hf
def miA (f : List Dat → Option (List Dat)) (m : DA) : DI := fun env S => (m env S).bind fun ds S1 => match f ds with
  | some xs => .ok xs S1
  | none => .stk
theorem tI_ofA {f : List Dat → Option (List Dat)} {σ : St} {H : Hp} {R : It → Hp → Prop} {t : List V → Hp → Prop} (h : tI X.K Wx (miA f ma) σ H R)
    (k : ∀ ds xs vs W1 S1 H1, SimS X.K W1 S1 H1 → RepVs X.K W1 ds vs → f ds = some xs → (∀ W2 H2 J, Stp W1 H1 W2 H2 → SimS X.K W2 S1 H2 → ItOk X.K W2 H2 xs J → R J H2) → t vs H1) : tA X.K Wx ma σ H t := by
  obtain ⟨env, S, W, hE, hS, q⟩ := h
  refine ⟨env, S, W, hE, hS, ?_⟩
  unfold miA at q
  cases h : ma env S with
  | stk => rw [h] at q; exact q.elim
  | rz ex S' => rw [h] at q; exact q
  | ok d S' =>
    rw [h] at q
    intro W1 H1 v e1 s1 r1
    simp only [Out.bind] at q
    cases h2 : f d with
    | none => rw [h2] at q; exact q.elim
    | some ds =>
      rw [h2] at q
      exact k d ds v W1 S' H1 s1 r1 h2 fun W2 H2 J e2 s2 o => q W2 H2 J (e1.trans e2) s2 o
def inR (i : Int) : Bool := decide (-(2 ^ 62) ≤ i) && decide (i < 2 ^ 62)
def rng1 : List Dat → Option (List Dat) := fun ds => match ds with
  | [.int j] => if inR j = true then some (rngL 0 j.toNat) else none
  | _ => none
def rng2 : List Dat → Option (List Dat) := fun ds => match ds with
  | [.int i, .int j] => if (inR i && inR j) = true then some (rngL i (j - i).toNat) else none
  | _ => none
theorem it_range {W : Wd} {H : Hp} {lo : Int} {n : Nat} : ItOk X.K W H (rngL lo n) (Itr lo n) := fun i W1 S1 H1 e1 s1 => by
  refine ⟨fun hi => by rw [rngL_len] at hi; exact hi, fun d hd => ?_⟩
  have hlt : i < n := by
    have := (List.getElem?_eq_some_iff.mp hd).1
    rwa [rngL_len] at this
  rw [rngL_get hlt] at hd
  cases hd
  refine ⟨hlt, fun y H2 ⟨e, z⟩ => ?_⟩
  subst e z
  exact ⟨W1, .refl, s1, .inr rfl⟩
theorem inR_at {i : Int} (h : inR i = true) : -(2 ^ 62) ≤ i ∧ i < 2 ^ 62 := by
  unfold inR at h
  rw [Bool.and_eq_true] at h
  exact ⟨of_decide_eq_true h.1, of_decide_eq_true h.2⟩
theorem ji_range1 (hm : X.mg "range" = none) (h : JA X Wx [a] ma) (hg : Gl X "range" := by rfl) (hs : starEach [a] X.env = [(false, eval a X.env)] := by rfl) : JI X Wx tg (.Call (.Name "range" p) [a] [] pos) (miA rng1 ma) :=
  PI.weak (pi_range1 hg hm h hs) fun σ H R q => tI_ofA q fun ds xs vs W1 S1 H1 s1 r1 hf k => by
    unfold rng1 at hf
    split at hf
    · rename_i i
      by_cases hi : inR i = true
      · rw [if_pos hi] at hf
        cases hf
        obtain ⟨v, rfl, rv⟩ := r1.one
        cases rv.int
        exact ⟨i, rfl, (inR_at hi).1, (inR_at hi).2, k W1 H1 _ .refl s1 it_range⟩
      · rw [if_neg hi] at hf
        cases hf
    · cases hf
theorem ji_range2 (hm : X.mg "range" = none) (h : JA X Wx [a, b] ma) (hg : Gl X "range" := by rfl) (hs : starEach [a, b] X.env = [(false, eval a X.env), (false, eval b X.env)] := by rfl) (hs2 : starEach [b] X.env = [(false, eval b X.env)] := by rfl) : JI X Wx tg (.Call (.Name "range" p) [a, b] [] pos) (miA rng2 ma) :=
  PI.weak (pi_range2 hg hm h hs hs2) fun σ H R q => tI_ofA q fun ds xs vs W1 S1 H1 s1 r1 hf k => by
    unfold rng2 at hf
    split at hf
    · rename_i i i2
      by_cases hi : (inR i && inR i2) = true
      · rw [if_pos hi] at hf
        cases hf
        rw [Bool.and_eq_true] at hi
        obtain ⟨v, w, rfl, rv, rw'⟩ := r1.two
        cases rv.int
        cases rw'.int
        exact ⟨i, i2, rfl, ⟨(inR_at hi.1).1, (inR_at hi.1).2, (inR_at hi.2).1, (inR_at hi.2).2⟩, k W1 H1 _ .refl s1 it_range⟩
      · rw [if_neg hi] at hf
        cases hf
    · cases hf
/-- a dict's keys: the dict is locked for good -/
def kD : Key → Dat
  | .inl i => .int i
  | .inr x => .str x
def dctP : Dat → Sto → Option (List Dat) := fun d _ => match d with
  | .dct es => some (es.map fun kv => kD kv.1)
  | _ => none
theorem RepK.keys {K : PySem.W.Frag} {G : Hp} : ∀ {es : List (Key × Dat)} {kvs : List (Key × V)}, RepK K G es kvs → es.map (·.1) = kvs.map (·.1)
  | [], _, h => by cases h; rfl
  | (k, d) :: es, _, ⟨v, r, e, _, h⟩ => by
    subst e
    rw [List.map_cons, List.map_cons, RepK.keys h]
theorem pi_dct (he : PE X e (tE X.K Wx m1)) : PI X tg e (fun σ H R => tE X.K Wx m1 σ H fun x H1 => ∃ d kvs, x = .ref d ∧ ((H1 d = some (.dK kvs) ∧ ∀ od, R (Itk d od kvs) (upd H1 d (.frz od (.dK kvs)))) ∨ ∃ od, H1 d = some (.frz od (.dK kvs)) ∧ R (Itk d od kvs) H1)) := by
  refine ⟨fun pins s σ H R I h => ?_⟩
  refine thn (he.run pins s σ H _ I h) fun u s1 ⟨x, H1, I1, rx, d, kvs, ex, q⟩ => ?_
  subst ex
  obtain rfl : u = Value.ref d := rx
  have key : ∀ (H2 : Hp) (od : Obj), Inv X pins σ H2 s1 → H2 d = some (.frz od (.dK kvs)) → R (Itk d od kvs) H2 → wpAny (model X.prog X.w) X.A (pyIter (.ref d)) (PIE X pins σ tg R) X.xe s1 := by
    intro H2 od I2 hd q2
    obtain ⟨hs, hgd, hx, es, ep, vs, hdt, hsz, kv, hm⟩ := I2.frzK hd
    refine iter_keys hs hgd hx hdt (pi_one (tk := s1.toks) I2 _ (turn_keys _ hdt) ⟨_, Heap.get?_push_size _ rfl, rfl, ?_⟩ q2)
    rw [hsz] <;> rfl
  rcases q with ⟨hd, q⟩ | ⟨od, hd, q⟩
  · obtain ⟨od, I2⟩ := I1.lock hd (by trivial)
    exact key _ od I2 upd_same (q od)
  · exact key _ od I1 hd q
theorem SimS.lock {K : PySem.W.Frag} {W : Wd} {S : Sto} {H : Hp} {d : Addr} {kvs : List (Key × V)} {od : Obj} (h : SimS K W S H) (e : W.G d = some (.dK kvs)) : SimS K ⟨upd W.G d (.frz od (.dK kvs)), W.cs⟩ S (upd H d (.frz od (.dK kvs))) ∧ Stp W H ⟨upd W.G d (.frz od (.dK kvs)), W.cs⟩ (upd H d (.frz od (.dK kvs))) := by
  have eg : ExtG W.G (upd W.G d (.frz od (.dK kvs))) := fun a o q => by
    by_cases z : a = d
    · subst z
      rw [e] at q
      cases q
      exact .inr ⟨kvs, od, rfl, upd_same⟩
    · exact .inl ((upd_ne z).trans q)
  refine ⟨⟨fun a o q => ?_, h.len, h.nd, fun l x hl => ?_, fun a ha => ?_⟩, ⟨⟨eg, [], by simp⟩, fun a o q g nn => ?_⟩⟩
  · have q : upd W.G d (.frz od (.dK kvs)) a = some o := q
    by_cases z : a = d
    · subst z
      rw [upd_same] at q ⊢
      exact q
    · rw [upd_ne z] at q ⊢
      exact h.sub a o q
  · obtain ⟨a, o, h1, h2, h3, h4⟩ := h.cel l x hl
    have ne : a ≠ d := fun z => by
      subst z
      rw [e] at h2
      cases h2
    exact ⟨a, o, h1, (upd_ne ne).trans h2, (upd_ne ne).trans h3, h4.mono eg⟩
  · intro z
    by_cases y : a = d
    · subst y
      rw [upd_same] at z
      cases z
    · rw [upd_ne y] at z
      exact h.trk a ha z
  · have ne : a ≠ d := fun z => by
      subst z
      rw [e] at g
      cases g
    exact ⟨(upd_ne ne).trans q, (upd_ne ne).trans g, nn⟩
theorem it_keys {W : Wd} {H : Hp} {d : Addr} {od : Obj} {kvs : List (Key × V)} {es : List (Key × Dat)} (h : W.G d = some (.frz od (.dK kvs))) (r : es.map (·.1) = kvs.map (·.1)) : ItOk X.K W H (es.map fun kv => kD kv.1) (Itk d od kvs) := fun i W1 S1 H1 e1 s1 => by
  have hg : W1.G d = some (.frz od (.dK kvs)) := by
    rcases e1.le.G d _ h with q | ⟨_, _, z, _⟩
    · exact q
    · cases z
  have hd := s1.sub d _ hg
  have hl : es.length = kvs.length := by
    have := congrArg List.length r
    rwa [List.length_map, List.length_map] at this
  refine ⟨fun hi => ⟨hd, by rw [List.length_map, hl] at hi; exact hi⟩, fun x hx => ?_⟩
  have hlt : i < es.length := by
    have := (List.getElem?_eq_some_iff.mp hx).1
    rwa [List.length_map] at this
  refine ⟨⟨hd, by rw [← hl]; exact hlt⟩, fun y H2 ⟨e, k, v, hk, hy⟩ => ?_⟩
  subst e hy
  refine ⟨W1, .refl, s1, .inr ?_⟩
  have h1 : (es.map (·.1))[i]? = (kvs.map (·.1))[i]? := by rw [r]
  rw [List.getElem?_map, List.getElem?_map, hk] at h1
  rw [List.getElem?_map] at hx
  cases he : es[i]? with
  | none => rw [he] at hx; cases hx
  | some q =>
    rw [he] at hx h1
    have h1 : q.1 = k := Option.some.inj h1
    have hx : kD q.1 = x := Option.some.inj hx
    rw [← hx, h1]
    cases k <;> rfl
theorem ji_dct (h : JE X Wx iter m1) : JI X Wx tg iter (miE dctP m1) :=
  PI.weak (pi_dct h) fun σ H R q => tI_ofE q fun d ds v W1 S1 H1 s1 r1 hf k => by
    cases d with
    | dct es =>
      cases hf
      obtain ⟨a, kvs, rfl, h2, h3⟩ := r1.dct
      refine ⟨a, kvs, rfl, ?_⟩
      rcases h2 with h2 | ⟨od, h2⟩
      · refine .inl ⟨s1.sub a _ h2, fun od => ?_⟩
        obtain ⟨s2, e2⟩ := s1.lock (od := od) h2
        exact k _ _ _ e2 s2 (it_keys upd_same h3.keys)
      · exact .inr ⟨od, s1.sub a _ h2, k W1 H1 _ .refl s1 (it_keys h2 h3.keys)⟩
    | _ => cases hf
/-! ### comprehensions -/
def wipeE (env : Env) : List Nat → Env
  | [] => env
  | v :: vs => (wipeE env vs).set v none
theorem wipeE_len {env : Env} : ∀ {vs : List Nat}, (wipeE env vs).length = env.length
  | [] => rfl
  | v :: vs => by unfold wipeE; rw [List.length_set, wipeE_len]
theorem wipeE_some {env : Env} {i : Nat} {d : Dat} : ∀ {vs : List Nat}, (wipeE env vs)[i]? = some (some d) → env[i]? = some (some d) ∧ i ∉ vs
  | [], h => ⟨h, by simp⟩
  | v :: vs, h => by
    unfold wipeE at h
    by_cases hi : v = i
    · subst hi
      by_cases hv : v < (wipeE env vs).length
      · rw [List.getElem?_set_self hv] at h; cases h
      · rw [List.getElem?_eq_none (by simpa using hv)] at h; cases h
    · rw [List.getElem?_set_ne hi] at h
      obtain ⟨h1, h2⟩ := wipeE_some h
      exact ⟨h1, by simp only [List.mem_cons, not_or]; exact ⟨fun e => hi e.symm, h2⟩⟩
theorem wipe_out' {σ : St} {i : Nat} : ∀ {vs : List Nat}, i ∉ vs → (wipe σ vs)[i]? = σ[i]?
  | [], _ => rfl
  | v :: vs, h => by
    unfold wipe
    simp only [List.mem_cons, not_or] at h
    rw [List.getElem?_set_ne (fun z => h.1 z.symm), wipe_out' h.2]
theorem wipe_in {σ : St} {i : Nat} : ∀ {vs : List Nat}, i ∈ vs → (wipe σ vs)[i]? = if i < σ.length then some none else none
  | [], h => by cases h
  | v :: vs, h => by
    unfold wipe
    by_cases hi : v = i
    · subst hi
      by_cases hv : v < σ.length
      · rw [if_pos hv, List.getElem?_set_self (by rw [wipe_length]; exact hv)]
      · rw [if_neg hv, List.getElem?_eq_none (by rw [List.length_set, wipe_length]; omega)]
    · rcases List.mem_cons.mp h with h | h
      · exact absurd h.symm hi
      · rw [List.getElem?_set_ne hi, wipe_in h]
theorem SimE.wipe {K : PySem.W.Frag} {W : Wd} {env : Env} {σ : St} (h : SimE K W env σ) (vs : List Nat) : SimE K W (wipeE env vs) (L2.wipe σ vs) := by
  refine ⟨by rw [wipeE_len, wipe_length, h.len], fun i d e => ?_⟩
  obtain ⟨h1, h2⟩ := wipeE_some e
  rw [wipe_out' h2]
  exact h.at_ i d h1
theorem wipe_off {σ σ2 : St} {vs L : List Nat} (hL : ∀ i ∈ L, i ∈ vs) (h : Off L (L2.wipe σ vs) σ2) : L2.wipe σ2 vs = L2.wipe σ vs := by
  have hl : σ2.length = σ.length := by rw [h.1, wipe_length]
  refine List.ext_getElem? fun i => ?_
  by_cases hi : i ∈ vs
  · rw [wipe_in hi, wipe_in hi, hl]
  · rw [wipe_out' hi, h.2 i fun z => hi (hL i z)]
abbrev WF : WX := fun _ _ _ _ => False
/-- no exception may pass -/
def Out.bindN {α β : Type} (o : Out α) (f : α → Sto → Out β) : Out β := match o with
  | .ok a S => f a S
  | .rz _ _ => .stk
  | .stk => .stk
def lcL (g : DG) (t : DT) (me : DE) (env0 : Env) : List Dat → Sto → Out (List Dat)
  | [], S => .ok [] S
  | d :: ds, S => match g d env0 with
    | none => .stk
    | some e1 => (t e1 S).bindN fun c S1 => if c = true then (me e1 S1).bindN fun y S2 => if nc y = true then (lcL g t me env0 ds S2).bind fun ys S3 => .ok (y :: ys) S3 else .stk else lcL g t me env0 ds S1
def tYesM : DT := fun _ S => .ok true S
def mLc (mi : DI) (g : DG) (t : DT) (me : DE) (vs : List Nat) : DE := fun env S => (mi env S).bind fun ds S1 => if ds.length ≤ 100000 then (lcL g t me (wipeE env vs) ds S1).bind fun ys S2 => .ok (.lst ys) S2 else .stk
theorem SimS.out {K : PySem.W.Frag} {W : Wd} {S : Sto} {H : Hp} {p : Addr} {o : HO} (h : SimS K W S H) (hg : W.G p = none) (hc : p ∉ W.cs) : SimS K W S (upd H p o) := by
  refine ⟨fun a u e => ?_, h.len, h.nd, fun l d hl => ?_, fun a ha => ?_⟩
  · have ne : a ≠ p := fun z => by
      subst z
      rw [hg] at e
      cases e
    rw [upd_ne ne]
    exact h.sub a u e
  · obtain ⟨a, u, h1, h2, h3, h4⟩ := h.cel l d hl
    have ne : a ≠ p := fun z => by
      subst z
      exact hc (List.mem_of_getElem? h1)
    exact ⟨a, u, h1, h2, (upd_ne ne).trans h3, h4⟩
  · have ne : a ≠ p := fun z => hc (z ▸ ha)
    rw [upd_ne ne]
    exact h.trk a ha
theorem SimS.adopt {K : PySem.W.Frag} {W : Wd} {S : Sto} {H : Hp} {p : Addr} {o : HO} (h : SimS K W S H) (hp : H p = some o) (hg : W.G p = none) (hc : p ∉ W.cs) : SimS K ⟨upd W.G p o, W.cs⟩ S H := by
  refine ⟨fun a u e => ?_, h.len, h.nd, fun l d hl => ?_, h.trk⟩
  · have e : upd W.G p o a = some u := e
    by_cases z : a = p
    · subst z
      rw [upd_same] at e
      rw [hp]
      exact e
    · rw [upd_ne z] at e
      exact h.sub a u e
  · obtain ⟨a, u, h1, h2, h3, h4⟩ := h.cel l d hl
    have ne : a ≠ p := fun z => by
      subst z
      exact hc (List.mem_of_getElem? h1)
    exact ⟨a, u, h1, (upd_ne ne).trans h2, h3, h4.mono (ExtG.new hg)⟩
/-- where a comprehension stands at turn i; (W0, H0): ahead of the new list -/
structure LcAt (K : PySem.W.Frag) (Wx : WX) (σ : St) (W0 : Wd) (H0 : Hp) (D : Addr) (rest : Sto → Out (List Dat)) (Q : VK) (i : Nat) (S : Sto) (W : Wd) (H : Hp) (acc : List Dat) (xs : List V) : Prop where
  st : Stp W0 H0 W H
  si : SimS K W S H
  hd : H D = some (.lst xs)
  hg : W.G D = none
  hc : D ∉ W.cs
  rp : Reps K W.G acc xs
  ln : xs.length ≤ i
  po : PostE K W0 H0 Wx σ ((rest S).bind fun ys S' => .ok (.lst (acc ++ ys)) S') Q
theorem Reps.snoc {K : PySem.W.Frag} {G : Hp} : ∀ {ds : List Dat} {xs : List V} {d : Dat} {x : V}, Reps K G ds xs → Rep K G d x → Reps K G (ds ++ [d]) (xs ++ [x])
  | [], _, d, x, h, r => by cases h; exact ⟨x, [], rfl, r, rfl⟩
  | _ :: _, _, d, x, ⟨y, q, e, h1, h2⟩, r => ⟨y, q ++ [x], by rw [e]; rfl, h1, Reps.snoc h2 r⟩
theorem post_bindN {α : Type} {K : PySem.W.Frag} {W0 W : Wd} {H0 H : Hp} {σ σ2 : St} {Wy : WX} {o : Out Dat} {f : Dat → Sto → Out α} {g : α → Sto → Out Dat} {Q R : VK} (q : PostE K W0 H0 Wx σ ((o.bindN f).bind g) Q)
    (k : ∀ d S1 W1 H1 v, Stp W H W1 H1 → SimS K W1 S1 H1 → RepV K W1 d v → PostE K W0 H0 Wx σ ((f d S1).bind g) Q → R v H1) : PostE K W H Wy σ2 o R := by
  cases o with
  | stk => exact q.elim
  | rz ex S1 => exact q.elim
  | ok c S1 => exact fun W1 H1 v e1 s1 r => k c S1 W1 H1 v e1 s1 r q
theorem post_bindNT {α : Type} {K : PySem.W.Frag} {W0 W : Wd} {H0 H : Hp} {σ σ2 : St} {Wy : WX} {o : Out Bool} {f : Bool → Sto → Out α} {g : α → Sto → Out Dat} {Q : VK} {R : Bool → Hp → Prop} (q : PostE K W0 H0 Wx σ ((o.bindN f).bind g) Q)
    (k : ∀ d S1 W1 H1, Stp W H W1 H1 → SimS K W1 S1 H1 → PostE K W0 H0 Wx σ ((f d S1).bind g) Q → R d H1) : PostT K W H Wy σ2 o R := by
  cases o with
  | stk => exact q.elim
  | rz ex S1 => exact q.elim
  | ok c S1 => exact fun W1 H1 e1 s1 => k c S1 W1 H1 e1 s1 q
theorem Stp.out {W0 W : Wd} {H0 H : Hp} {p : Addr} {o : HO} (h : Stp W0 H0 W H) (hp : H0 p = none) : Stp W0 H0 W (upd H p o) := ⟨h.le, fun a u e g n => ⟨(upd_ne (ne_of_none e hp)).trans (h.kp a u e g n).1, (h.kp a u e g n).2⟩⟩
theorem bind_cons {g : List Dat → List Dat} {o : Out (List Dat)} {y : Dat} {acc : List Dat} : ((o.bind fun ys S3 => .ok (y :: ys) S3).bind fun ys S' => Out.ok (Dat.lst (acc ++ ys)) S') = o.bind fun ys S' => .ok (.lst ((acc ++ [y]) ++ ys)) S' := by
  cases o with
  | ok ys S =>
    show Out.ok (Dat.lst (acc ++ (y :: ys))) S = Out.ok (Dat.lst ((acc ++ [y]) ++ ys)) S
    rw [List.append_assoc]
    rfl
  | rz _ _ => rfl
  | stk => rfl
theorem lc_turn {K : PySem.W.Frag} {σ : St} {W0 : Wd} {H0 : Hp} {D : Addr} {g : DG} {t : DT} {me : DE} {env0 : Env} {vs L : List Nat} {ds : List Dat} {Q : VK} {i : Nat} {S : Sto} {W : Wd} {H H2 : Hp} {W2 : Wd} {acc : List Dat} {xs : List V} {d : Dat} {x : V} {Nx : Hp → Prop}
    (h0 : H0 D = none) (hL : ∀ i ∈ L, i ∈ vs) (hE : SimE K W0 env0 (L2.wipe σ vs)) (hl : ds.length ≤ 100000) (hd : ds[i]? = some d) (p : LcAt K Wx σ W0 H0 D (lcL g t me env0 (ds.drop i)) Q i S W H acc xs) (e2 : Stp W H W2 H2) (s2 : SimS K W2 S H2) (r : RepV K W2 d x)
    (hN : ∀ S W H acc xs, LcAt K Wx σ W0 H0 D (lcL g t me env0 (ds.drop (i + 1))) Q (i + 1) S W H acc xs → Nx H) :
    tG K L g x (L2.wipe σ vs) H2 fun σ2 H3 => L2.wipe σ2 vs = L2.wipe σ vs ∧ tT K WF t σ2 H3 fun b H4 => if b = true then tE K WF me σ2 H4 fun y H5 => ∃ acc, H5 D = some (.lst acc) ∧ acc.length < sizeLine ∧ Nx (upd H5 D (.lst (acc ++ [y]))) else Nx H4 := by
  obtain ⟨p1, p2, p3, p4, p5, p6, p7, p8⟩ := p
  obtain ⟨hlt, he⟩ := List.getElem?_eq_some_iff.mp hd
  rw [List.drop_eq_getElem_cons hlt, he] at p8
  have q1 : PostE K W0 H0 Wx σ ((match g d env0 with
    | none => Out.stk
    | some e1 => (t e1 S).bindN fun c S1 => if c = true then (me e1 S1).bindN fun y S2 => if nc y = true then (lcL g t me env0 (ds.drop (i + 1)) S2).bind fun ys S3 => .ok (y :: ys) S3 else .stk else lcL g t me env0 (ds.drop (i + 1)) S1).bind fun ys S' => .ok (.lst (acc ++ ys)) S') Q := p8
  cases h1 : g d env0 with
  | none => rw [h1] at q1; exact q1.elim
  | some e1 =>
    simp only [h1] at q1
    have st2 := p1.trans e2
    obtain ⟨d1, g1, c1⟩ := e2.kp D _ p3 p4 p5
    refine ⟨env0, e1, S, W2, d, hE.mono st2.le, s2, r, h1, fun σ2 hE2 o2 => ⟨wipe_off hL o2, e1, S, W2, hE2, s2, ?_⟩⟩
    refine post_bindNT q1 fun c S3 W3 H3 e3 s3 q3 => ?_
    obtain ⟨d3, g3, c3⟩ := e3.kp D _ d1 g1 c1
    cases c with
    | false => exact hN S3 W3 H3 acc xs ⟨st2.trans e3, s3, d3, g3, c3, p6.mono (e2.trans e3).le.G, Nat.le_succ_of_le p7, q3⟩
    | true =>
      refine ⟨e1, S3, W3, hE2.mono e3.le, s3, ?_⟩
      refine post_bindN q3 fun y S4 W4 H4 v e4 s4 r4 q4 => ?_
      obtain ⟨d4, g4, c4⟩ := e4.kp D _ d3 g3 c3
      by_cases hn : nc y = true
      · rw [if_pos hn, bind_cons (g := id)] at q4
        refine ⟨xs, d4, Nat.lt_of_le_of_lt p7 (Nat.lt_of_lt_of_le hlt (Nat.le_trans hl (by decide))), ?_⟩
        refine hN S4 W4 _ (acc ++ [y]) (xs ++ [v]) ⟨?_, s4.out g4 c4, upd_same, g4, c4, Reps.snoc (p6.mono ((e2.trans e3).trans e4).le.G) (r4.pure hn), by rw [List.length_append]; exact Nat.succ_le_succ p7, q4⟩
        exact ((st2.trans e3).trans e4).out h0
      · rw [if_neg hn] at q4
        exact q4.elim
theorem lc_done {K : PySem.W.Frag} {σ : St} {W0 : Wd} {H0 : Hp} {D : Addr} {g : DG} {t : DT} {me : DE} {env0 : Env} {ds : List Dat} {Q : VK} {i : Nat} {S : Sto} {W : Wd} {H : Hp} {acc : List Dat} {xs : List V} (h0 : H0 D = none)
    (hi : ds.length ≤ i) (p : LcAt K Wx σ W0 H0 D (lcL g t me env0 (ds.drop i)) Q i S W H acc xs) : Q (.ref D) H := by
  obtain ⟨p1, p2, p3, p4, p5, p6, p7, p8⟩ := p
  rw [List.drop_eq_nil_of_le hi] at p8
  have q : PostE K W0 H0 Wx σ (.ok (.lst (acc ++ [])) S) Q := p8
  rw [List.append_nil] at q
  refine q ⟨upd W.G D (.lst xs), W.cs⟩ H (.ref D) ⟨p1.le.trans ⟨ExtG.new p4, [], by simp⟩, fun a u e g n => ?_⟩ (p2.adopt p3 p4 p5) (.inr ⟨D, xs, rfl, upd_same, p6.mono (ExtG.new p4)⟩)
  obtain ⟨k1, k2, k3⟩ := p1.kp a u e g n
  exact ⟨k1, (upd_ne (ne_of_none e h0)).trans k2, k3⟩
theorem lc_go {σ : St} {H : Hp} {Q : VK} {g : DG} {t : DT} {me : DE} {vs L : List Nat} (hL : ∀ i ∈ L, i ∈ vs) (h : tE X.K Wx (mLc mi g t me vs) σ H Q) : tLc (tI X.K Wx mi) (tG X.K L g) (tT X.K WF t) (tE X.K WF me) vs σ H Q := by
  obtain ⟨env, S, W, hE, hS, q⟩ := h
  refine ⟨env, S, W, hE, hS, ?_⟩
  unfold mLc at q
  cases h : mi env S with
  | stk => rw [h] at q; exact q.elim
  | rz ex S' => rw [h] at q; exact q
  | ok ds S' =>
    rw [h] at q
    intro W' H' J e s ho D hD
    have q1 : PostE X.K W H Wx σ (if ds.length ≤ 100000 then (lcL g t me (wipeE env vs) ds S').bind fun ys S2 => .ok (.lst ys) S2 else .stk) Q := q
    by_cases hl : ds.length ≤ 100000
    · rw [if_pos hl] at q1
      have hE' : SimE X.K W' (wipeE env vs) (L2.wipe σ vs) := (hE.mono e.le).wipe vs
      have hg : W'.G D = none := by
        cases z : W'.G D with
        | none => rfl
        | some u => exact absurd hD (s.ex z)
      have hc : D ∉ W'.cs := fun z => s.trk D z hD
      refine ⟨fun i m H1 => m = ds.length - i ∧ i ≤ ds.length ∧ ∃ S W1 acc xs, LcAt X.K Wx σ W' H' D (lcL g t me (wipeE env vs) (ds.drop i)) Q i S W1 H1 acc xs, ⟨_, rfl, Nat.zero_le _, S', W', [], [], ?_⟩, ?_⟩
      · exact ⟨Stp.out .refl hD, s.out hg hc, upd_same, hg, hc, rfl, Nat.le_refl _, PostE.mono (o := (lcL g t me (wipeE env vs) ds S').bind fun ys S2 => .ok (.lst ys) S2) e q1⟩
      · rintro i m H1 ⟨rfl, hi, S1, W1, acc, xs, p⟩
        obtain ⟨ho1, ho2⟩ := ho i W1 S1 H1 p.st p.si
        by_cases hlt : i < ds.length
        · obtain ⟨hgo, hy⟩ := ho2 ds[i] (List.getElem?_eq_getElem hlt)
          refine .inr ⟨hgo, fun H2 => ∃ S W1 acc xs, LcAt X.K Wx σ W' H' D (lcL g t me (wipeE env vs) (ds.drop (i + 1))) Q (i + 1) S W1 H2 acc xs, fun H2 p' => ⟨_, Nat.sub_lt_sub_left hlt (Nat.lt_succ_self i), rfl, hlt, p'⟩, fun x H2 y => ?_⟩
          obtain ⟨W2, e2, s2, r2⟩ := hy x H2 y
          exact lc_turn hD hL hE' hl (List.getElem?_eq_getElem hlt) p e2 s2 r2 fun S W H acc xs p => ⟨S, W, acc, xs, p⟩
        · have hi2 : i = ds.length := by omega
          subst hi2
          exact .inl ⟨ho1 (Nat.le_refl _), lc_done hD (Nat.le_refl _) p⟩
    · rw [if_neg hl] at q1
      exact q1.elim
/-- the context of a block within a body -/
theorem Ctx.blk (c : Ctx X Wx k) (s : Shared) (H : Hp) (scope : Scope) (cenv : PySem.Env) (fp : List Addr) : Ctx (X.blk s H scope cenv fp) WF k := ⟨takes0, PassesOwn.never, c.cm, c.hr, c.nd⟩
theorem je_lc (c : Ctx X Wx k) {elt : Expr} {ifs : List Expr} {scope : Scope} {own : List (Str × Nat)} {L : List Nat} {g : DG} {t : DT} {me : DE} (hi : JI X Wx tg iter mi) (ok : blkC X.N X.env.scope scope own = true)
    (hg : ∀ (s : Shared) (H : Hp) (C : Addr) (cl : List (Str × Addr)) (fp : List Addr), Ctx (X.blk s H scope (compEnvC scope cl C X.env) fp) WF k → JG (X.blk s H scope (compEnvC scope cl C X.env) fp) tg L g)
    (ht : ∀ (s : Shared) (H : Hp) (C : Addr) (cl : List (Str × Addr)) (fp : List Addr), Ctx (X.blk s H scope (compEnvC scope cl C X.env) fp) WF k → PTs (X.blk s H scope (compEnvC scope cl C X.env) fp) ifs (tT X.K WF t))
    (he : ∀ (s : Shared) (H : Hp) (C : Addr) (cl : List (Str × Addr)) (fp : List Addr), Ctx (X.blk s H scope (compEnvC scope cl C X.env) fp) WF k → JE (X.blk s H scope (compEnvC scope cl C X.env) fp) WF elt me)
    (hL : ∀ i ∈ L, i ∈ own.map (·.2) := by decide) (hs : ∀ x, foldedSetIterable iter X.env x = pure x := by intro _; rfl) : JE X Wx (.ListComp elt [⟨tg, iter, ifs, 0⟩] scope pos) (mLc mi g t me (own.map (·.2))) :=
  PE.weak (pe_lc c.cm c.nd hi (blkOk_by ok) (fun s H C cl fp => hg s H C cl fp (c.blk s H scope _ fp)) (fun s H C cl fp => ht s H C cl fp (c.blk s H scope _ fp)) (fun s H C cl fp => he s H C cl fp (c.blk s H scope _ fp)) hs) fun σ H Q h => lc_go hL h
theorem jts_nil : PTs X [] (tT X.K WF tYesM) := ⟨fun pins s σ H Q I ⟨env, S, W, hE, hS, q⟩ => pts_nil.run pins s σ H Q I (q W H .refl hS)⟩
theorem jts_one {t : DT} (h : JT X WF a t) : PTs X [a] (tT X.K WF t) := pts_one h
/-- y = [..] on one line -/
theorem js_setLc (c : Ctx X Wx k) (i : Nat) {y : Str} {py spos : Pos} {elt : Expr} {ifs : List Expr} {scope : Scope} {own : List (Str × Nat)} {L : List Nat} {g : DG} {t : DT} {me : DE} (hi : JI X Wx tg iter mi) (ok : blkC X.N X.env.scope scope own = true)
    (hg : ∀ (s : Shared) (H : Hp) (C : Addr) (cl : List (Str × Addr)) (fp : List Addr), Ctx (X.blk s H scope (compEnvC scope cl C X.env) fp) WF k → JG (X.blk s H scope (compEnvC scope cl C X.env) fp) tg L g)
    (ht : ∀ (s : Shared) (H : Hp) (C : Addr) (cl : List (Str × Addr)) (fp : List Addr), Ctx (X.blk s H scope (compEnvC scope cl C X.env) fp) WF k → PTs (X.blk s H scope (compEnvC scope cl C X.env) fp) ifs (tT X.K WF t))
    (he : ∀ (s : Shared) (H : Hp) (C : Addr) (cl : List (Str × Addr)) (fp : List Addr), Ctx (X.blk s H scope (compEnvC scope cl C X.env) fp) WF k → JE (X.blk s H scope (compEnvC scope cl C X.env) fp) WF elt me)
    (hy : X.N[i]? = some y := by rfl) (hyl : X.env.scope.names.lookup y = some .local := by rfl) (sw : swapsWith (.ListComp elt [⟨tg, iter, ifs, 0⟩] scope pos) (some (.Name y py)) spos.line X.env = pure true := by exact sw_true rfl rfl rfl (by decide +kernel))
    (hL : ∀ i ∈ L, i ∈ own.map (·.2) := by decide) (hs : ∀ x, foldedSetIterable iter X.env x = pure x := by intro _; rfl) : JS X Wx (.Assign [.Name y py] (.ListComp elt [⟨tg, iter, ifs, 0⟩] scope pos) spos) (sSet i (mLc mi g t me (own.map (·.2)))) :=
  PS.weak (ps_setLc (i := i) c.cm c.nd hy hyl sw hi (blkOk_by ok) (fun s H C cl fp => hg s H C cl fp (c.blk s H scope _ fp)) (fun s H C cl fp => ht s H C cl fp (c.blk s H scope _ fp)) (fun s H C cl fp => he s H C cl fp (c.blk s H scope _ fp)) hs) fun D σ H ⟨env, S, W, hE, hS, q⟩ => by
    have h : tE X.K Wx (mLc mi g t me (own.map (·.2))) σ H fun v H1 => D.nx (σ.set i (some v)) H1 := ⟨env, S, W, hE, hS, post_ofE hE q fun d S1 W1 H1 v e s r q1 => q1 W1 _ H1 .refl ((hE.mono e.le).set r i) s⟩
    exact lc_go hL h
end
end JL
/-! J6: more of the language: truth, polymorphic operators, built-ins, methods, stores. -/
namespace JL
open PySem PySem.Spec L2
section
variable {X : Cx} {Wx : WX} {j k n : Nat} {x : Str} {p pos apos cpos : Pos} {e o a b : Expr} {es : List Expr} {ma : DA} {mo m1 m2 : DE}
/-! ### what is never reached -/
def sStk : DS := fun _ _ => .stk
theorem js_stk {st : Stmt} : JS X Wx st sStk := ⟨fun _ _ _ _ _ _ ⟨_, _, _, _, _, q⟩ => q.elim⟩
theorem jss_stk {sts : List Stmt} : JSs X Wx sts sStk := ⟨fun _ _ _ _ _ _ ⟨_, _, _, _, _, q⟩ => q.elim⟩
def mStk : DE := fun _ _ => .stk
theorem je_stk {e : Expr} : JE X Wx e mStk := ⟨fun _ _ _ _ _ _ ⟨_, _, _, _, _, q⟩ => q.elim⟩
/-! ### truth -/
def tru (d : Dat) (S : Sto) : Option Bool := match d with
  | .non => some false
  | .bl b => some b
  | .int i => some (i != 0)
  | .str y => if y.length ≤ sizeLine then some ((y.length : Int) != 0) else none
  | d => (seqOf d S).map fun xs => !xs.isEmpty
def mTru (m : DE) : DT := fun env S => (m env S).bind fun d S1 => match tru d S1 with
  | some b => .ok b S1
  | none => .stk
theorem Reps.isEmpty {K : PySem.W.Frag} {G : Hp} {ds : List Dat} {xs : List V} (h : Reps K G ds xs) : xs.isEmpty = ds.isEmpty := by
  cases ds with
  | nil => cases h; rfl
  | cons d ds => obtain ⟨x, r, e, _, _⟩ := h; subst e; rfl
theorem tru_at {K : PySem.W.Frag} {W : Wd} {S : Sto} {H : Hp} {d : Dat} {v : V} {b : Bool} (hS : SimS K W S H) (r : RepV K W d v) (h : tru d S = some b) : TruV K v H b := by
  have seq : (seqOf d S).map (fun xs => !xs.isEmpty) = some b → TruV K v H b := fun h => by
    cases hq : seqOf d S with
    | none => rw [hq] at h; cases h
    | some ds =>
      rw [hq] at h
      have h := Option.some.inj h
      obtain ⟨a, xs, e1, e2, e3⟩ := seqOf_at hS r hq
      subst e1
      rcases e2 with e2 | e2
      · exact .inl ⟨xs, e2, by rw [e3.isEmpty]; exact h.symm⟩
      · exact .inr (.inl ⟨xs, e2, by rw [e3.isEmpty]; exact h.symm⟩)
  unfold tru at h
  cases d with
  | non => cases r.non; cases h; rfl
  | bl c => cases r.bl; cases h; rfl
  | int i => cases r.int; cases h; rfl
  | str y =>
    cases r.str
    simp only at h
    by_cases hz : y.length ≤ sizeLine
    · rw [if_pos hz] at h
      exact ⟨hz, (Option.some.inj h).symm⟩
    · rw [if_neg hz] at h
      cases h
  | _ => exact seq h
theorem jt_tru {e : Expr} {m : DE} (h : JE X Wx e m) (he : ∀ whole, isTrue e X.env whole = (do let v ← whole; standAt e.pos; holding [v] (truthy v)) := by intro _; rfl) : JT X Wx e (mTru m) :=
  PT.weak (pt_truth h he) fun σ H Q ⟨env, S, W, hE, hS, q⟩ => by
    refine ⟨env, S, W, hE, hS, ?_⟩
    unfold mTru at q
    cases h1 : m env S with
    | stk => rw [h1] at q; exact q.elim
    | rz ex S1 => rw [h1] at q; exact q
    | ok d S1 =>
      rw [h1] at q
      intro W1 H1 v e1 s1 r
      simp only [Out.bind] at q
      cases h2 : tru d S1 with
      | none => rw [h2] at q; exact q.elim
      | some b =>
        rw [h2] at q
        exact ⟨b, tru_at s1 r h2, q W1 H1 e1 s1⟩
/-! ### polymorphic operators -/
theorem hu64 {A : Around} {k : Nat} (hr : Room k A) : A.units + 64 < cLine := Nat.lt_of_le_of_lt (Nat.le_refl _) hr.units
theorem lstM_at {K : PySem.W.Frag} {W : Wd} {S : Sto} {H : Hp} {d : Dat} {v : V} {ds : List Dat} (hS : SimS K W S H) (r : RepV K W d v) (h : lstOf d S = some ds) : ∃ a xs, v = .ref a ∧ H a = some (.lst xs) ∧ Reps K W.G ds xs := by
  unfold lstOf at h
  cases d with
  | lst g =>
    cases h
    obtain ⟨a, xs, h1, h2, h3⟩ := r.lstM
    exact ⟨a, xs, h1, hS.sub _ _ h2, h3⟩
  | cell l =>
    obtain ⟨a, h1, h2⟩ := r.cell
    simp only at h
    split at h
    · rename_i g hl
      cases h
      obtain ⟨b, o, h3, h4, h5, xs, h6, h7⟩ := hS.cel l _ hl
      rw [h1] at h3
      cases h3
      subst h6
      exact ⟨a, xs, h2, h5, h7⟩
    · cases h
  | _ => cases h
theorem Reps.append {K : PySem.W.Frag} {G : Hp} : ∀ {ds es : List Dat} {vs us : List V}, Reps K G ds vs → Reps K G es us → Reps K G (ds ++ es) (vs ++ us)
  | [], _, _, _, h, k => by cases h; exact k
  | _ :: _, _, _, _, ⟨x, r, e1, e2, e3⟩, k => ⟨x, r ++ _, by rw [e1]; rfl, e2, Reps.append e3 k⟩
theorem le_line {n : Nat} (h : n ≤ 100000) : n ≤ sizeLine := Nat.le_trans h (by decide)
def dAddP : Dat → Dat → Sto → Out Dat := fun a b S => match a, b with
  | .int i, .int j => .ok (.int (i + j)) S
  | .str i, .str j => if i.length + j.length ≤ 100000 then .ok (.str (i ++ j)) S else .stk
  | a, b => (match lstOf a S, lstOf b S with
    | some xs, some ys => if xs.length + ys.length ≤ 100000 then .ok (.lst (xs ++ ys)) S else .stk
    | _, _ => .stk)
theorem op_addP : OpR X (binaryOp .Add) (fun x y H Q => (∃ i j, x = .int i ∧ y = .int j ∧ Q (.int (i + j)) H) ∨ (∃ i j, x = .str i ∧ y = .str j ∧ i.length + j.length ≤ sizeLine ∧ Q (.str (i ++ j)) H) ∨ rCat x y H Q) := OpR.or op_add (OpR.or op_add_str op_cat)
theorem oj_addP : OpJ X Wx (fun x y H Q => (∃ i j, x = .int i ∧ y = .int j ∧ Q (.int (i + j)) H) ∨ (∃ i j, x = .str i ∧ y = .str j ∧ i.length + j.length ≤ sizeLine ∧ Q (.str (i ++ j)) H) ∨ rCat x y H Q) dAddP := fun W S σ H x y a b Q hS rx ry q => by
  unfold dAddP at q
  split at q
  · cases rx.int
    cases ry.int
    exact .inl ⟨_, _, rfl, rfl, q W H _ .refl hS (.inr rfl)⟩
  · rename_i i j
    cases rx.str
    cases ry.str
    by_cases h : i.length + j.length ≤ 100000
    · rw [if_pos h] at q
      exact .inr (.inl ⟨_, _, rfl, rfl, le_line h, q W H _ .refl hS (.inr rfl)⟩)
    · rw [if_neg h] at q
      exact q.elim
  · cases h1 : lstOf a S with
    | none => rw [h1] at q; exact q.elim
    | some xs =>
      cases h2 : lstOf b S with
      | none => rw [h1, h2] at q; exact q.elim
      | some ys =>
        rw [h1, h2] at q
        simp only at q
        by_cases h : xs.length + ys.length ≤ 100000
        · rw [if_pos h] at q
          obtain ⟨p1, us, e1, e2, e3⟩ := lstM_at hS rx h1
          obtain ⟨p2, ws, f1, f2, f3⟩ := lstM_at hS ry h2
          refine .inr (.inr ⟨p1, p2, us, ws, e1, f1, e2, f2, by rw [e3.length, f3.length]; exact le_line h, fun p hp => ?_⟩)
          exact post_new hS q hp fun G eg hg => ⟨p, _, rfl, hg, (e3.append f3).mono eg⟩
        · rw [if_neg h] at q
          exact q.elim
theorem je_addP (ha : JE X Wx a m1) (hb : JE X Wx b m2) : JE X Wx (.BinOp a .Add b pos) (mBin dAddP m1 m2) := je_op op_addP oj_addP ha hb
/-! == of data -/
mutual
def pyOf : Dat → Option PyData
  | .non => some .none
  | .bl b => some (.bool b)
  | .int i => some (.int i)
  | .str x => some (.str x)
  | .lst ds => (pyAll ds).map .list
  | .tup ds => (pyAll ds).map .tuple
  | _ => none
def pyAll : List Dat → Option (List PyData)
  | [] => some []
  | d :: ds => (pyOf d).bind fun a => (pyAll ds).map fun b => a :: b
end
def pyTop (d : Dat) (S : Sto) : Option PyData := match d with
  | .cell l => (lstOf (.cell l) S).bind fun ds => (pyAll ds).map .list
  | d => pyOf d
mutual
theorem dp_of {K : PySem.W.Frag} {G H : Hp} (hx : Ext G H) : ∀ {d : Dat} {v : V} {y : PyData}, Rep K G d v → pyOf d = some y → Dp K H v y
  | .non, v, y, r, h => by cases h; cases r; exact .non
  | .bl b, v, y, r, h => by cases h; cases r; exact .bl b
  | .int b, v, y, r, h => by cases h; cases r; exact .int b
  | .str b, v, y, r, h => by cases h; cases r; exact .str b
  | .lst ds, v, y, r, h => by
    obtain ⟨a, xs, e1, e2, e3⟩ := r
    unfold pyOf at h
    cases h1 : pyAll ds with
    | none => rw [h1] at h; cases h
    | some ys =>
      rw [h1] at h
      cases h
      subst e1
      exact .lst (.inl (.inl (hx _ _ e2))) (dps_of hx e3 h1)
  | .tup ds, v, y, r, h => by
    obtain ⟨a, xs, e1, e2, e3⟩ := r
    unfold pyOf at h
    cases h1 : pyAll ds with
    | none => rw [h1] at h; cases h
    | some ys =>
      rw [h1] at h
      cases h
      subst e1
      exact .tup (hx.t e2) (dps_of hx e3 h1)
  | .ty _, v, y, r, h => by cases h
  | .glo _, v, y, r, h => by cases h
  | .dct _, v, y, r, h => by cases h
  | .ins _ _, v, y, r, h => by cases h
  | .cell _, v, y, r, h => by cases h
  | .rol _, v, y, r, h => by cases h
theorem dps_of {K : PySem.W.Frag} {G H : Hp} (hx : Ext G H) : ∀ {ds : List Dat} {vs : List V} {ys : List PyData}, Reps K G ds vs → pyAll ds = some ys → DpAll K H vs ys
  | [], vs, ys, r, h => by cases h; cases r; exact .nil
  | d :: ds, vs, ys, r, h => by
    obtain ⟨x, q, e1, e2, e3⟩ := r
    unfold pyAll at h
    cases h1 : pyOf d with
    | none => rw [h1] at h; cases h
    | some y =>
      cases h2 : pyAll ds with
      | none => rw [h1, h2] at h; cases h
      | some zs =>
        rw [h1, h2] at h
        cases h
        subst e1
        exact .cons (dp_of hx e2 h1) (dps_of hx e3 h2)
end
theorem dp_top {K : PySem.W.Frag} {W : Wd} {S : Sto} {H : Hp} {d : Dat} {v : V} {y : PyData} (hS : SimS K W S H) (r : RepV K W d v) (h : pyTop d S = some y) : Dp K H v y := by
  cases d with
  | cell l =>
    have h : ((lstOf (.cell l) S).bind fun ds => (pyAll ds).map .list) = some y := h
    cases h1 : lstOf (.cell l) S with
    | none => rw [h1] at h; cases h
    | some ds =>
      rw [h1] at h
      have h : (pyAll ds).map PyData.list = some y := h
      cases h2 : pyAll ds with
      | none => rw [h2] at h; cases h
      | some ys =>
        rw [h2] at h
        cases h
        obtain ⟨a, xs, e1, e2, e3⟩ := lstOf_at hS r h1
        subst e1
        exact .lst e2 (dps_of hS.sub e3 h2)
  | _ => exact dp_of hS.sub (r.pure rfl) h
def eqP (a b : Dat) (S : Sto) : Option Bool := match eqS a b with
  | some r => some r
  | none => (match pyTop a S, pyTop b S with
    | some x, some y => if (SeqAt.shaped x && SeqAt.shaped y) = true then some (PyData.eqv x y) else none
    | _, _ => none)
def dEqP : Dat → Dat → Sto → Out Dat := fun a b S => match eqP a b S with
  | some r => .ok (.bl r) S
  | none => .stk
def dNeP : Dat → Dat → Sto → Out Dat := fun a b S => match eqP a b S with
  | some r => .ok (.bl (!r)) S
  | none => .stk
theorem eqP_at {K : PySem.W.Frag} {W : Wd} {S : Sto} {H : Hp} {a b : Dat} {x y : V} {r : Bool} (hS : SimS K W S H) (rx : RepV K W a x) (ry : RepV K W b y) (h : eqP a b S = some r) :
    (scal x y = true ∧ decide (x = y) = r) ∨ ∃ d e, Dp K H x d ∧ Dp K H y e ∧ SeqAt.shaped d = true ∧ SeqAt.shaped e = true ∧ PyData.eqv d e = r := by
  unfold eqP at h
  cases h1 : eqS a b with
  | some r1 =>
    rw [h1] at h
    cases h
    exact .inl (eqS_at rx ry h1)
  | none =>
    rw [h1] at h
    simp only at h
    cases h2 : pyTop a S with
    | none => rw [h2] at h; cases h
    | some d =>
      cases h3 : pyTop b S with
      | none => rw [h2, h3] at h; cases h
      | some e =>
        rw [h2, h3] at h
        simp only at h
        by_cases hs : (SeqAt.shaped d && SeqAt.shaped e) = true
        · rw [if_pos hs] at h
          cases h
          rw [Bool.and_eq_true] at hs
          exact .inr ⟨d, e, dp_top hS rx h2, dp_top hS ry h3, hs.1, hs.2, rfl⟩
        · rw [if_neg hs] at h
          cases h
abbrev rEqP (K : PySem.W.Frag) : R2 := fun x y H Q => rEq x y H Q ∨ rEqD K x y H Q
abbrev rNeP (K : PySem.W.Frag) : R2 := fun x y H Q => rNe x y H Q ∨ rNeD K x y H Q
theorem op_eqP (hr : Room k X.A) : OpR X (compareOp .Eq) (rEqP X.K) := OpR.or op_eq (op_eqD (hu64 hr))
theorem op_neP (hr : Room k X.A) : OpR X (compareOp .NotEq) (rNeP X.K) := OpR.or op_ne (op_neD (hu64 hr))
theorem oj_eqP : OpJ X Wx (rEqP X.K) dEqP := fun W S σ H x y a b Q hS rx ry q => by
  unfold dEqP at q
  cases h : eqP a b S with
  | none => rw [h] at q; exact q.elim
  | some r =>
    rw [h] at q
    rcases eqP_at hS rx ry h with ⟨h1, h2⟩ | ⟨d, e, h1, h2, h3, h4, h5⟩
    · exact .inl ⟨h1, by rw [h2]; exact q W H _ .refl hS (.inr rfl)⟩
    · exact .inr ⟨d, e, h1, h2, h3, h4, by rw [h5]; exact q W H _ .refl hS (.inr rfl)⟩
theorem oj_neP : OpJ X Wx (rNeP X.K) dNeP := fun W S σ H x y a b Q hS rx ry q => by
  unfold dNeP at q
  cases h : eqP a b S with
  | none => rw [h] at q; exact q.elim
  | some r =>
    rw [h] at q
    rcases eqP_at hS rx ry h with ⟨h1, h2⟩ | ⟨d, e, h1, h2, h3, h4, h5⟩
    · exact .inl ⟨h1, by rw [h2]; exact q W H _ .refl hS (.inr rfl)⟩
    · exact .inr ⟨d, e, h1, h2, h3, h4, by rw [h5]; exact q W H _ .refl hS (.inr rfl)⟩
/-! in: a list, a tuple, a dict, a text -/
def inP (x y : Dat) (S : Sto) : Option Bool := match seqOf y S with
  | some ds => if (flatD x && ds.all flatD) = true then some (inD x ds) else none
  | none => (match dctOf y S with
    | some es => (keyOf x).map fun k => (dLook es k).isSome
    | none => (match x, y with
      | .str i, .str j => some (!(Builtin.Str.occurrences j i 0 j.length 1).isEmpty)
      | _, _ => none))
def dInP (neg : Bool) : Dat → Dat → Sto → Out Dat := fun x y S => match inP x y S with
  | some r => .ok (.bl (if neg then !r else r)) S
  | none => .stk
abbrev rInK (neg : Bool) : R2 := fun y x H Q => ∃ p o, x = .ref p ∧ DGet H p y o ∧ Q (.bl (if neg then !o.isSome else o.isSome)) H
abbrev rInT (neg : Bool) : R2 := fun x y H Q => ∃ i j, x = .str i ∧ y = .str j ∧ Q (.bl (if neg then !(!(Builtin.Str.occurrences j i 0 j.length 1).isEmpty) else !(Builtin.Str.occurrences j i 0 j.length 1).isEmpty)) H
abbrev rInP (K : PySem.W.Frag) (neg : Bool) : R2 := fun x y H Q => rIn K neg x y H Q ∨ rInK neg x y H Q ∨ rInT neg x y H Q
theorem op_inK (hr : Room k X.A) : OpR X (compareOp .In) (rInK false) := fun pins s σ H y x u v Q I ry rx ⟨p, o, ex, g, q⟩ => by
  subst ex
  obtain rfl : v = Value.ref p := rx
  exact d_in (hu_of hr) I g ry fun s3 I3 => ⟨.bl o.isSome, H, I3, rfl, q⟩
theorem op_ninK (hr : Room k X.A) : OpR X (compareOp .NotIn) (rInK true) := fun pins s σ H y x u v Q I ry rx ⟨p, o, ex, g, q⟩ => by
  subst ex
  obtain rfl : v = Value.ref p := rx
  exact d_notIn (hu_of hr) I g ry fun s3 I3 => ⟨.bl (!o.isSome), H, I3, rfl, q⟩
theorem op_inP (hr : Room k X.A) : OpR X (compareOp .In) (rInP X.K false) := OpR.or op_in_seq (OpR.or (op_inK hr) op_in_str)
theorem op_ninP (hr : Room k X.A) : OpR X (compareOp .NotIn) (rInP X.K true) := OpR.or op_notIn_seq (OpR.or (op_ninK hr) op_notin_str)
theorem oj_inP (neg : Bool) : OpJ X Wx (rInP X.K neg) (dInP neg) := fun W S σ H x y a b Q hS rx ry q => by
  unfold dInP at q
  cases h : inP a b S with
  | none => rw [h] at q; exact q.elim
  | some r =>
    rw [h] at q
    have q2 := q W H _ .refl hS (.inr rfl)
    unfold inP at h
    cases h1 : seqOf b S with
    | some ds =>
      rw [h1] at h
      simp only at h
      by_cases hf : (flatD a && ds.all flatD) = true
      · rw [if_pos hf] at h
        cases h
        rw [Bool.and_eq_true] at hf
        obtain ⟨p, xs, e1, e2, e3⟩ := seqOf_at hS ry h1
        obtain ⟨f1, f2⟩ := flat_at rx hf.1
        obtain ⟨g1, g2⟩ := flats_at e3 hf.2
        refine .inl ⟨p, xs, e1, e2, f2, g2, ?_⟩
        rw [f1, g1, inD_at hf.1 hf.2]
        exact q2
      · rw [if_neg hf] at h
        cases h
    | none =>
      rw [h1] at h
      simp only at h
      cases h2 : dctOf b S with
      | some es =>
        rw [h2] at h
        simp only at h
        cases h3 : keyOf a with
        | none => rw [h3] at h; cases h
        | some k =>
          rw [h3] at h
          have h : (dLook es k).isSome = r := Option.some.inj h
          obtain ⟨p, kvs, h4, h5, h6⟩ := dctOf_at hS ry h2
          have hs : (valV kvs k).isSome = r := by
            obtain ⟨l1, l2⟩ := RepK.look (k := k) h6
            cases h7 : dLook es k with
            | none => rw [l2 h7, ← h, h7]; rfl
            | some d =>
              obtain ⟨v, h8, _⟩ := l1 d h7
              rw [h8, ← h, h7]; rfl
          refine .inr (.inl ⟨p, valV kvs k, h4, .inl ⟨kvs, k, h5, keyOf_at rx h3, rfl⟩, ?_⟩)
          rw [hs]
          exact q2
      | none =>
        rw [h2] at h
        simp only at h
        split at h
        · cases h
          cases rx.str
          cases ry.str
          exact .inr (.inr ⟨_, _, rfl, rfl, q2⟩)
        · cases h
/-! ### built-ins -/
def blsOf : List Dat → Option (List Bool)
  | [] => some []
  | .bl b :: ds => (blsOf ds).map (b :: ·)
  | _ => none
def intsOf : List Dat → Option (List Int)
  | [] => some []
  | .int b :: ds => (intsOf ds).map (b :: ·)
  | _ => none
def strsOf : List Dat → Option (List Str)
  | [] => some []
  | .str b :: ds => (strsOf ds).map (b :: ·)
  | _ => none
theorem bls_at {K : PySem.W.Frag} {G : Hp} : ∀ {ds : List Dat} {xs : List V} {bs : List Bool}, Reps K G ds xs → blsOf ds = some bs → xs = bs.map V.bl
  | [], _, _, r, h => by cases h; cases r; rfl
  | d :: ds, _, _, ⟨x, q, e1, e2, e3⟩, h => by
    cases d with
    | bl b =>
      unfold blsOf at h
      cases h1 : blsOf ds with
      | none => rw [h1] at h; cases h
      | some bs =>
        rw [h1] at h
        cases h
        rw [e1, bls_at e3 h1, show x = .bl b from e2]
        rfl
    | _ => cases h
theorem ints_at {K : PySem.W.Frag} {G : Hp} : ∀ {ds : List Dat} {xs : List V} {bs : List Int}, Reps K G ds xs → intsOf ds = some bs → xs = bs.map V.int
  | [], _, _, r, h => by cases h; cases r; rfl
  | d :: ds, _, _, ⟨x, q, e1, e2, e3⟩, h => by
    cases d with
    | int b =>
      unfold intsOf at h
      cases h1 : intsOf ds with
      | none => rw [h1] at h; cases h
      | some bs =>
        rw [h1] at h
        cases h
        rw [e1, ints_at e3 h1, show x = .int b from e2]
        rfl
    | _ => cases h
theorem strs_at {K : PySem.W.Frag} {G : Hp} : ∀ {ds : List Dat} {xs : List V} {bs : List Str}, Reps K G ds xs → strsOf ds = some bs → xs = bs.map V.str
  | [], _, _, r, h => by cases h; cases r; rfl
  | d :: ds, _, _, ⟨x, q, e1, e2, e3⟩, h => by
    cases d with
    | str b =>
      unfold strsOf at h
      cases h1 : strsOf ds with
      | none => rw [h1] at h; cases h
      | some bs =>
        rw [h1] at h
        cases h
        rw [e1, strs_at e3 h1, show x = .str b from e2]
        rfl
    | _ => cases h
/-- a built-in of one list -/
def dL1 {α : Type} (f : List Dat → Option α) (g : α → Option Dat) : List Dat → Sto → Out Dat := fun ds S => match ds with
  | [d] => (match (lstOf d S).bind f with
    | some x => (match g x with
      | some y => .ok y S
      | none => .stk)
    | none => .stk)
  | _ => .stk
theorem dL1_at {α : Type} {f : List Dat → Option α} {g : α → Option Dat} {W : Wd} {S : Sto} {σ : St} {H : Hp} {vs : List V} {ds : List Dat} {Q : VK} {R : Prop} (hS : SimS X.K W S H) (r : RepVs X.K W ds vs) (q : PostE X.K W H Wx σ (dL1 f g ds S) Q)
    (k : ∀ a xs es x y, vs = [.ref a] → SqL X.K H a xs → Reps X.K W.G es xs → f es = some x → g x = some y → PostE X.K W H Wx σ (.ok y S) Q → R) : R := by
  unfold dL1 at q
  split at q
  · rename_i d
    obtain ⟨v, rfl, rv⟩ := r.one
    cases h1 : lstOf d S with
    | none => rw [h1] at q; exact q.elim
    | some es =>
      rw [h1] at q
      simp only [Option.bind_some] at q
      cases h2 : f es with
      | none => rw [h2] at q; exact q.elim
      | some x =>
        rw [h2] at q
        simp only at q
        cases h3 : g x with
        | none => rw [h3] at q; exact q.elim
        | some y =>
          rw [h3] at q
          obtain ⟨a, xs, e1, e2, e3⟩ := lstOf_at hS rv h1
          exact k a xs es x y (by rw [e1]) e2 e3 h2 h3 q
  · exact q.elim
def dAny := dL1 blsOf fun bs => some (.bl (bs.any id))
def dAll := dL1 blsOf fun bs => some (.bl (bs.all id))
def dSum := dL1 intsOf fun ns => some (.int ns.sum)
def maxI : List Int → Int
  | [] => 0
  | [a] => a
  | a :: r => max a (maxI r)
def minI : List Int → Int
  | [] => 0
  | [a] => a
  | a :: r => min a (minI r)
theorem maxI_mem : ∀ {ns : List Int}, ns ≠ [] → maxI ns ∈ ns
  | [], h => absurd rfl h
  | [a], _ => by simp [maxI]
  | a :: b :: r, _ => by
    have ih := maxI_mem (ns := b :: r) (by simp)
    show max a (maxI (b :: r)) ∈ _
    rcases Int.le_total a (maxI (b :: r)) with h | h
    · rw [Int.max_eq_right h]; exact List.mem_cons_of_mem _ ih
    · rw [Int.max_eq_left h]; exact List.mem_cons_self
theorem maxI_le : ∀ {ns : List Int} {y : Int}, y ∈ ns → y ≤ maxI ns
  | [], _, h => by cases h
  | [a], y, h => by rw [List.mem_singleton.mp h]; exact Int.le_refl _
  | a :: b :: r, y, h => by
    show y ≤ max a (maxI (b :: r))
    rcases List.mem_cons.mp h with h | h
    · rw [h]; exact Int.le_max_left _ _
    · exact Int.le_trans (maxI_le h) (Int.le_max_right _ _)
theorem minI_mem : ∀ {ns : List Int}, ns ≠ [] → minI ns ∈ ns
  | [], h => absurd rfl h
  | [a], _ => by simp [minI]
  | a :: b :: r, _ => by
    have ih := minI_mem (ns := b :: r) (by simp)
    show min a (minI (b :: r)) ∈ _
    rcases Int.le_total a (minI (b :: r)) with h | h
    · rw [Int.min_eq_left h]; exact List.mem_cons_self
    · rw [Int.min_eq_right h]; exact List.mem_cons_of_mem _ ih
theorem minI_le : ∀ {ns : List Int} {y : Int}, y ∈ ns → minI ns ≤ y
  | [], _, h => by cases h
  | [a], y, h => by rw [List.mem_singleton.mp h]; exact Int.le_refl _
  | a :: b :: r, y, h => by
    show min a (minI (b :: r)) ≤ y
    rcases List.mem_cons.mp h with h | h
    · rw [h]; exact Int.min_le_left _ _
    · exact Int.le_trans (Int.min_le_right _ _) (minI_le h)
def dMax := dL1 intsOf fun ns => if ns.isEmpty then none else some (.int (maxI ns))
def dMin := dL1 intsOf fun ns => if ns.isEmpty then none else some (.int (minI ns))
theorem cj_any : CallJ X Wx (rAny X.K) dAny := fun W S σ H vs ds Q hS r q => dL1_at hS r q fun a xs es x y e1 e2 e3 e4 e5 q => by
  cases e5
  exact ⟨a, x, e1, bls_at e3 e4 ▸ e2, q W H _ .refl hS (.inr rfl)⟩
theorem cj_all : CallJ X Wx (rAll X.K) dAll := fun W S σ H vs ds Q hS r q => dL1_at hS r q fun a xs es x y e1 e2 e3 e4 e5 q => by
  cases e5
  exact ⟨a, x, e1, bls_at e3 e4 ▸ e2, q W H _ .refl hS (.inr rfl)⟩
theorem cj_sum : CallJ X Wx (rSum X.K) dSum := fun W S σ H vs ds Q hS r q => dL1_at hS r q fun a xs es x y e1 e2 e3 e4 e5 q => by
  cases e5
  exact ⟨a, x, e1, ints_at e3 e4 ▸ e2, q W H _ .refl hS (.inr rfl)⟩
theorem cj_maxL : CallJ X Wx (rMax X.K) dMax := fun W S σ H vs ds Q hS r q => dL1_at hS r q fun a xs es x y e1 e2 e3 e4 e5 q => by
  cases x with
  | nil => cases e5
  | cons z zs =>
    cases e5
    refine ⟨a, z :: zs, e1, ints_at e3 e4 ▸ e2, Nat.succ_pos _, fun m hm hle => ?_⟩
    have : m = maxI (z :: zs) := Int.le_antisymm (maxI_le hm) (hle _ (maxI_mem (by simp)))
    rw [this]
    exact q W H _ .refl hS (.inr rfl)
theorem cj_minL : CallJ X Wx (rMin X.K) dMin := fun W S σ H vs ds Q hS r q => dL1_at hS r q fun a xs es x y e1 e2 e3 e4 e5 q => by
  cases x with
  | nil => cases e5
  | cons z zs =>
    cases e5
    refine ⟨a, z :: zs, e1, ints_at e3 e4 ▸ e2, Nat.succ_pos _, fun m hm hle => ?_⟩
    have : m = minI (z :: zs) := Int.le_antisymm (hle _ (minI_mem (by simp))) (minI_le hm)
    rw [this]
    exact q W H _ .refl hS (.inr rfl)
/-! sorted -/
def insI (a : Int) : List Int → List Int
  | [] => [a]
  | b :: r => if a ≤ b then a :: b :: r else b :: insI a r
def srtI : List Int → List Int
  | [] => []
  | a :: r => insI a (srtI r)
theorem insI_perm {a : Int} : ∀ {r : List Int}, (insI a r).Perm (a :: r)
  | [] => .refl _
  | b :: r => by
    unfold insI
    by_cases h : a ≤ b
    · rw [if_pos h]
    · rw [if_neg h]
      exact ((insI_perm (r := r)).cons b).trans (.swap a b r)
theorem srtI_perm : ∀ {r : List Int}, (srtI r).Perm r
  | [] => .refl _
  | a :: r => insI_perm.trans (srtI_perm.cons a)
theorem insI_sorted {a : Int} : ∀ {r : List Int}, r.Pairwise (· ≤ ·) → (insI a r).Pairwise (· ≤ ·)
  | [], _ => by simp [insI]
  | b :: r, h => by
    unfold insI
    by_cases hab : a ≤ b
    · rw [if_pos hab]
      refine List.Pairwise.cons (fun c hc => ?_) h
      rcases List.mem_cons.mp hc with e | e
      · rw [e]; exact hab
      · exact Int.le_trans hab ((List.pairwise_cons.mp h).1 c e)
    · rw [if_neg hab]
      obtain ⟨h1, h2⟩ := List.pairwise_cons.mp h
      refine List.Pairwise.cons (fun c hc => ?_) (insI_sorted h2)
      rcases List.mem_cons.mp (insI_perm.mem_iff.mp hc) with e | e
      · rw [e]; omega
      · exact h1 c e
theorem srtI_sorted : ∀ {r : List Int}, (srtI r).Pairwise (· ≤ ·)
  | [] => .nil
  | a :: r => insI_sorted srtI_sorted
theorem sorted_uniq : ∀ {xs ys : List Int}, xs.Perm ys → xs.Pairwise (· ≤ ·) → ys.Pairwise (· ≤ ·) → xs = ys
  | [], ys, p, _, _ => (List.nil_perm.mp p).symm
  | x :: xs, [], p, _, _ => absurd p.length_eq (by simp)
  | x :: xs, y :: ys, p, h, k => by
    obtain ⟨h1, h2⟩ := List.pairwise_cons.mp h
    obtain ⟨k1, k2⟩ := List.pairwise_cons.mp k
    have e : x = y := by
      refine Int.le_antisymm ?_ ?_
      · rcases List.mem_cons.mp (p.mem_iff.mpr List.mem_cons_self : y ∈ x :: xs) with e | e
        · rw [e]; exact Int.le_refl _
        · exact h1 y e
      · rcases List.mem_cons.mp (p.mem_iff.mp List.mem_cons_self : x ∈ y :: ys) with e | e
        · rw [e]; exact Int.le_refl _
        · exact k1 x e
    subst e
    rw [sorted_uniq (List.perm_cons x |>.mp p) h2 k2]
def dSrt := dL1 intsOf fun ns => if ns.length < 64 then some (.lst ((srtI ns).map .int)) else none
theorem Reps.ints {K : PySem.W.Frag} {G : Hp} : ∀ {ns : List Int}, Reps K G (ns.map .int) (ns.map V.int)
  | [] => rfl
  | _ :: _ => ⟨_, _, rfl, rfl, Reps.ints⟩
theorem Reps.strs {K : PySem.W.Frag} {G : Hp} : ∀ {ns : List Str}, Reps K G (ns.map .str) (ns.map V.str)
  | [] => rfl
  | _ :: _ => ⟨_, _, rfl, rfl, Reps.strs⟩
theorem cj_srt : CallJ X Wx (rSorted X.K) dSrt := fun W S σ H vs ds Q hS r q => dL1_at hS r q fun a xs es x y e1 e2 e3 e4 e5 q => by
  by_cases hl : x.length < 64
  · rw [if_pos hl] at e5
    cases e5
    refine ⟨a, x, e1, ints_at e3 e4 ▸ e2, hl, fun ns' p hp hs hn => ?_⟩
    rw [sorted_uniq (hp.trans srtI_perm.symm) hs srtI_sorted]
    exact post_new hS q hn fun G eg hg => ⟨p, _, rfl, hg, Reps.ints⟩
  · rw [if_neg hl] at e5
    cases e5
/-! list(), tuple() -/
def dList : List Dat → Sto → Out Dat := fun ds S => match ds with
  | [d] => (match seqOf d S with
    | some xs => .ok (.lst xs) S
    | none => .stk)
  | _ => .stk
def dListC : List Dat → Sto → Out Dat := fun ds S => match ds with
  | [d] => (match seqOf d S with
    | some xs => .ok (.cell S.length) (S ++ [some (.lst xs)])
    | none => .stk)
  | _ => .stk
abbrev rList (K : PySem.W.Frag) : List V → Hp → VK → Prop := fun xs H Q => ∃ p ys, xs = [.ref p] ∧ (SqL K H p ys ∨ SqT K H p ys) ∧ ∀ l, H l = none → Q (.ref l) (upd H l (.lst ys))
theorem cj_list : CallJ X Wx (rList X.K) dList := fun W S σ H vs ds Q hS r q => by
  unfold dList at q
  split at q
  · rename_i d
    obtain ⟨v, rfl, rv⟩ := r.one
    cases h : seqOf d S with
    | none => rw [h] at q; exact q.elim
    | some xs =>
      rw [h] at q
      obtain ⟨a, ys, h1, h2, h3⟩ := seqOf_at hS rv h
      exact ⟨a, ys, by rw [h1], h2, fun l hl => post_new hS q hl fun G eg hg => ⟨l, ys, rfl, hg, h3.mono eg⟩⟩
  · exact q.elim
theorem cj_listC : CallJ X Wx (rList X.K) dListC := fun W S σ H vs ds Q hS r q => by
  unfold dListC at q
  split at q
  · rename_i d
    obtain ⟨v, rfl, rv⟩ := r.one
    cases h : seqOf d S with
    | none => rw [h] at q; exact q.elim
    | some xs =>
      rw [h] at q
      obtain ⟨a, ys, h1, h2, h3⟩ := seqOf_at hS rv h
      exact ⟨a, ys, by rw [h1], h2, fun l hl => post_cell hS q hl ⟨ys, rfl, h3⟩⟩
  · exact q.elim
def dTuple : List Dat → Sto → Out Dat := fun ds S => match ds with
  | [d] => (match seqOf d S with
    | some xs => .ok (.tup xs) S
    | none => .stk)
  | _ => .stk
theorem cj_tuple : CallJ X Wx (fun xs H Q => ∃ p ys, xs = [.ref p] ∧ ((SqL X.K H p ys ∧ ∀ l, H l = none → Q (.ref l) (upd H l (.tup ys))) ∨ (SqT X.K H p ys ∧ Q (.ref p) H))) dTuple := fun W S σ H vs ds Q hS r q => by
  unfold dTuple at q
  split at q
  · rename_i d
    obtain ⟨v, rfl, rv⟩ := r.one
    cases h : seqOf d S with
    | none => rw [h] at q; exact q.elim
    | some xs =>
      rw [h] at q
      by_cases ht : ∃ es, d = .tup es
      · obtain ⟨es, rfl⟩ := ht
        have h : some es = some xs := h
        cases h
        obtain ⟨a, ys, h1, h2, h3⟩ := rv.tup
        exact ⟨a, ys, by rw [h1], .inr ⟨hS.t h2, by rw [← h1]; exact q W H v .refl hS rv⟩⟩
      · have hs : ∃ a ys, v = .ref a ∧ SqL X.K H a ys ∧ Reps X.K W.G xs ys := by
          by_cases hr : ∃ es, d = .rol es
          · obtain ⟨es, rfl⟩ := hr
            have h : some es = some xs := h
            cases h
            obtain ⟨a, xs, h1, h2, h3⟩ := rv.pure rfl
            exact ⟨a, xs, h1, hS.l h2, h3⟩
          · have h : lstOf d S = some xs := by
              cases d with
              | tup es => exact absurd ⟨es, rfl⟩ ht
              | rol es => exact absurd ⟨es, rfl⟩ hr
              | _ => exact h
            exact lstOf_at hS rv h
        obtain ⟨a, ys, h1, h2, h3⟩ := hs
        exact ⟨a, ys, by rw [h1], .inl ⟨h2, fun l hl => post_new hS q hl fun G eg hg => ⟨l, ys, rfl, .inl (.inl hg), h3.mono eg⟩⟩⟩
  · exact q.elim
end
end JL
/-! J7: stores, methods, freezing, iteration, dict comprehensions, isinstance. -/
namespace JL
open PySem PySem.Spec L2
section
variable {X : Cx} {Wx : WX} {j k n : Nat} {x : Str} {p pos apos cpos pos' : Pos} {e o a b tg iter : Expr} {es : List Expr} {ma : DA} {mo m1 m2 me mi' : DE} {mi : DI}
/-! ### cells set -/
theorem SimS.setC {K : PySem.W.Frag} {W : Wd} {S : Sto} {H : Hp} {l : Nat} {ad : Addr} {d : Dat} {u : HO} (h : SimS K W S H) (hl : W.cs[l]? = some ad) (hg : W.G ad = none) (hc : CellOk K W.G d u) : SimS K W (S.set l (some d)) (upd H ad u) ∧ Stp W H W (upd H ad u) := by
  have hll : l < W.cs.length := (List.getElem?_eq_some_iff.mp hl).1
  refine ⟨⟨fun c o q => ?_, by rw [List.length_set]; exact h.len, h.nd, fun m d' hm => ?_, fun c hc => ?_⟩, ⟨.refl, fun c o q g nn => ⟨?_, g, nn⟩⟩⟩
  · have ne : c ≠ ad := fun z => by
      subst z
      rw [hg] at q
      cases q
    rw [upd_ne ne]
    exact h.sub c o q
  · by_cases e : l = m
    · subst e
      rw [List.getElem?_set_self (by rw [h.len]; exact hll)] at hm
      have hm := Option.some.inj (Option.some.inj hm)
      subst hm
      exact ⟨ad, u, hl, hg, upd_same, hc⟩
    · rw [List.getElem?_set_ne e] at hm
      obtain ⟨c, o, h1, h2, h3, h4⟩ := h.cel m d' hm
      have ne : c ≠ ad := fun z => by
        subst z
        exact e ((List.getElem?_inj hll h.nd).mp (hl.trans h1.symm))
      exact ⟨c, o, h1, h2, (upd_ne ne).trans h3, h4⟩
  · intro z
    by_cases e : c = ad
    · subst e
      rw [upd_same] at z
      cases z
    · rw [upd_ne e] at z
      exact h.trk c hc z
  · have ne : c ≠ ad := fun z => nn (by rw [z]; exact List.mem_of_getElem? hl)
    exact (upd_ne ne).trans q
def dPutK (es : List (Key × Dat)) (k : Key) (v : Dat) : List (Key × Dat) := if (es.any fun kv => decide (kv.1 = k)) = true then es.map fun kv => if kv.1 = k then (kv.1, v) else kv else es ++ [(k, v)]
theorem RepK.any {K : PySem.W.Frag} {G : Hp} {k : Key} : ∀ {es : List (Key × Dat)} {kvs : List (Key × V)}, RepK K G es kvs → (kvs.any fun kv => decide (kv.1 = k)) = (es.any fun kv => decide (kv.1 = k))
  | [], _, h => by cases h; rfl
  | (k', d') :: es, _, ⟨x, r, e, h1, h2⟩ => by
    subst e
    rw [List.any_cons, List.any_cons, RepK.any h2]
theorem RepK.mapPut {K : PySem.W.Frag} {G : Hp} {k : Key} {d : Dat} {v : V} (hd : Rep K G d v) : ∀ {es : List (Key × Dat)} {kvs : List (Key × V)}, RepK K G es kvs → RepK K G (es.map fun kv => if kv.1 = k then (kv.1, d) else kv) (kvs.map fun kv => if kv.1 = k then (kv.1, v) else kv)
  | [], _, h => by cases h; rfl
  | (k', d') :: es, _, ⟨x, r, e, h1, h2⟩ => by
    subst e
    rw [List.map_cons, List.map_cons]
    have ih := RepK.mapPut (k := k) hd h2
    by_cases z : k' = k
    · rw [if_pos z, if_pos z]
      exact ⟨v, _, rfl, hd, ih⟩
    · rw [if_neg z, if_neg z]
      exact ⟨x, _, rfl, h1, ih⟩
theorem RepK.snoc {K : PySem.W.Frag} {G : Hp} {k : Key} {d : Dat} {v : V} (hd : Rep K G d v) : ∀ {es : List (Key × Dat)} {kvs : List (Key × V)}, RepK K G es kvs → RepK K G (es ++ [(k, d)]) (kvs ++ [(k, v)])
  | [], _, h => by cases h; exact ⟨v, [], rfl, hd, rfl⟩
  | (k', d') :: es, _, ⟨x, r, e, h1, h2⟩ => by
    subst e
    exact ⟨x, _, rfl, h1, RepK.snoc hd h2⟩
theorem RepK.put {K : PySem.W.Frag} {G : Hp} {k : Key} {d : Dat} {v : V} (hd : Rep K G d v) {es : List (Key × Dat)} {kvs : List (Key × V)} (h : RepK K G es kvs) : RepK K G (dPutK es k d) (putK kvs k v) := by
  unfold dPutK putK
  rw [h.any]
  by_cases z : (es.any fun kv => decide (kv.1 = k)) = true
  · rw [if_pos z, if_pos z]
    exact h.mapPut hd
  · rw [if_neg z, if_neg z]
    exact h.snoc hd
theorem RepK.length {K : PySem.W.Frag} {G : Hp} : ∀ {es : List (Key × Dat)} {kvs : List (Key × V)}, RepK K G es kvs → kvs.length = es.length
  | [], _, h => by cases h; rfl
  | (k', d') :: es, _, ⟨x, r, e, h1, h2⟩ => by
    rw [e, List.length_cons, List.length_cons, RepK.length h2]
theorem Reps.set {K : PySem.W.Frag} {G : Hp} {d : Dat} {v : V} (hd : Rep K G d v) : ∀ {ds : List Dat} {xs : List V} {i : Nat}, Reps K G ds xs → Reps K G (ds.set i d) (xs.set i v)
  | [], _, _, h => by cases h; rfl
  | _ :: _, _, 0, ⟨x, r, e, h1, h2⟩ => by subst e; exact ⟨v, r, rfl, hd, h2⟩
  | _ :: _, _, i + 1, ⟨x, r, e, h1, h2⟩ => by subst e; exact ⟨x, _, rfl, h1, Reps.set hd h2⟩
/-- o[i] = v -/
def dPut (od id d : Dat) (S : Sto) : Option Sto := match od with
  | .cell l => (match S[l]? with
    | some (some (.lst ds)) => (match id with
      | .int i => (match ixN ds.length i with
        | some j => if nc d = true then some (S.set l (some (.lst (ds.set j d)))) else none
        | none => none)
      | _ => none)
    | some (some (.dct es)) => (match keyOf id with
      | some k => if nc d = true ∧ es.length < 100000 then some (S.set l (some (.dct (dPutK es k d)))) else none
      | none => none)
    | _ => none)
  | _ => none
abbrev rSetP : TSet := fun o i v H Q => rSetL o i v H Q ∨ rSetD o i v H Q
theorem set_P (hr : Room k X.A) : PSet X rSetP := fun pins s σ H o i v ov iv u Q I ro ri rv h => by
  rcases h with h | h
  · exact set_list pins s σ H o i v ov iv u Q I ro ri rv h
  · exact set_dict (hu_of hr) pins s σ H o i v ov iv u Q I ro ri rv h
theorem dPut_at {K : PySem.W.Frag} {W : Wd} {S S' : Sto} {H : Hp} {od id d : Dat} {o i v : V} {Q : Hp → Prop} (hS : SimS K W S H) (ro : RepV K W od o) (ri : RepV K W id i) (rv : RepV K W d v) (h : dPut od id d S = some S')
    (q : ∀ H', Stp W H W H' → SimS K W S' H' → Q H') : rSetP o i v H Q := by
  unfold dPut at h
  cases od with
  | cell l =>
    obtain ⟨ad, h1, h2⟩ := ro.cell
    simp only at h
    split at h
    · rename_i ds hl
      obtain ⟨b, u, h3, h4, h5, xs, h6, h7⟩ := hS.cel l _ hl
      rw [h1] at h3
      cases h3
      subst h6
      split at h
      · rename_i n
        cases ri.int
        split at h
        · rename_i j hj
          by_cases hn : nc d = true
          · rw [if_pos hn] at h
            cases h
            obtain ⟨s1, e1⟩ := hS.setC h1 h4 (d := .lst (ds.set j d)) (u := .lst (xs.set j v)) ⟨_, rfl, h7.set (rv.pure hn)⟩
            exact .inl ⟨ad, xs, n, j, h2, rfl, h5, by rw [h7.length]; exact hj, q _ e1 s1⟩
          · rw [if_neg hn] at h
            cases h
        · cases h
      · cases h
    · rename_i es hl
      obtain ⟨b, u, h3, h4, h5, kvs, h6, h7⟩ := hS.cel l _ hl
      rw [h1] at h3
      cases h3
      subst h6
      split at h
      · rename_i k hk
        by_cases hn : nc d = true ∧ es.length < 100000
        · rw [if_pos hn] at h
          cases h
          obtain ⟨s1, e1⟩ := hS.setC h1 h4 (d := .dct (dPutK es k d)) (u := .dK (putK kvs k v)) ⟨_, rfl, h7.put (rv.pure hn.1)⟩
          exact .inr ⟨ad, _, h2, .inl ⟨kvs, k, h5, keyOf_at ri hk, by rw [h7.length]; exact Nat.lt_trans hn.2 (by decide), rfl⟩, q _ e1 s1⟩
        · rw [if_neg hn] at h
          cases h
      · cases h
    · cases h
  | _ => cases h
/-! ### targets that store -/
abbrev DH := Dat → Env → Sto → Option (Env × Sto)
def tH (K : PySem.W.Frag) (g : DH) : TG := fun v σ H Q => ∃ env S W d, SimE K W env σ ∧ SimS K W S H ∧ RepV K W d v ∧ (match g d env S with
  | some r => ∀ W' σ' H', Stp W H W' H' → SimE K W' r.1 σ' → SimS K W' r.2 H' → Q σ' H'
  | none => False)
abbrev JH (X : Cx) (tg : Expr) (g : DH) : Prop := PG X tg (tH X.K g)
def hN (i : Nat) : DH := fun d env S => some (env.set i (some d), S)
theorem jh_name (c : Ctx X Wx k) (i : Nat) (hi : X.N[i]? = some x := by rfl) (hx : Loc X.env.scope x := by first | exact .inl rfl | exact .inr rfl) (hf : X.fn x = true ∨ X.env.scope.names.lookup x = some .local := by first | exact .inl rfl | exact .inr rfl | assumption) : JH X (.Name x pos) (hN i) :=
  PG.weak (pg_name c.nd hi hx hf) fun v σ H Q ⟨env, S, W, d, hE, hS, r, k⟩ => k W _ H .refl (hE.set r i) hS
def okOf {α : Type} : Out α → Option (α × Sto)
  | .ok a S => some (a, S)
  | _ => none
def hSub (mo mi : DE) : DH := fun d env S => (okOf (mo env S)).bind fun o => (okOf (mi env o.2)).bind fun i => (dPut o.1 i.1 d i.2).map fun S' => (env, S')
theorem jh_sub (c : Ctx X Wx k) {i : Expr} {mi : DE} (ho : JE X WF o mo) (hi : JE X WF i mi) (hp : ∀ v, assign (.Subscript o i pos) X.env v = (do
      let ov ← holding [v] (eval o X.env)
      let iv ← holding [v, ov] (eval i X.env)
      standAt pos
      holding [v, ov, iv] (setItem ov iv v)
      release [v, ov, iv] []) := by intro _; rfl) : JH X (.Subscript o i pos) (hSub mo mi) := by
  refine PG.weak (pg_sub ho hi (set_P c.hr) hp) fun v σ H Q ⟨env, S, W, d, hE, hS, r, k⟩ => ?_
  unfold hSub at k
  refine ⟨env, S, W, hE, hS, ?_⟩
  cases h1 : mo env S with
  | stk => rw [h1] at k; exact k.elim
  | rz ex S1 => rw [h1] at k; exact k.elim
  | ok od S1 =>
    rw [h1] at k
    intro W1 H1 v1 e1 s1 r1
    refine ⟨env, S1, W1, hE.mono e1.le, s1, ?_⟩
    simp only [okOf, Option.bind_some] at k
    cases h2 : mi env S1 with
    | stk => rw [h2] at k; exact k.elim
    | rz ex S2 => rw [h2] at k; exact k.elim
    | ok id S2 =>
      rw [h2] at k
      intro W2 H2 v2 e2 s2 r2
      simp only [okOf, Option.bind_some] at k
      cases h3 : dPut od id d S2 with
      | none => rw [h3] at k; exact k.elim
      | some S3 =>
        rw [h3] at k
        exact dPut_at s2 (r1.mono e2.le) r2 (r.mono (e1.trans e2).le) h3 fun H3 e3 s3 => k W2 σ H3 ((e1.trans e2).trans e3) (hE.mono (e1.trans e2).le) s3
abbrev DHs := List Dat → Env → Sto → Option (Env × Sto)
def tHs (K : PySem.W.Frag) (g : DHs) : TGs := fun vs σ H Q => ∃ env S W ds, SimE K W env σ ∧ SimS K W S H ∧ RepVs K W ds vs ∧ (match g ds env S with
  | some r => ∀ W' σ' H', Stp W H W' H' → SimE K W' r.1 σ' → SimS K W' r.2 H' → Q σ' H'
  | none => False)
structure JHs (X : Cx) (tg : List Expr) (g : DHs) (n : Nat) : Prop where
  pg : PGs X tg (tHs X.K g)
  fits : ∀ ds env S r, g ds env S = some r → ds.length = n
def hZ : DHs := fun ds env S => match ds with
  | [] => some (env, S)
  | _ => none
def hC (g : DH) (r : DHs) : DHs := fun ds env S => match ds with
  | d :: ds => (g d env S).bind fun e => r ds e.1 e.2
  | [] => none
theorem jhs_nil : JHs X [] hZ 0 := ⟨PGs.weak pgs_nil fun vs σ H Q ⟨env, S, W, ds, hE, hS, r, k⟩ => by
  cases ds with
  | nil =>
    cases r
    exact ⟨rfl, k W σ H .refl hE hS⟩
  | cons _ _ => exact k.elim, fun ds env S r h => by
  cases ds with
  | nil => rfl
  | cons _ _ => cases h⟩
theorem jhs_cons {g : DH} {gr : DHs} (h : JH X e g) (hr : JHs X es gr n) (hs : (assignEach (e :: es) X.env).map (·.2) = assign e X.env :: (assignEach es X.env).map (·.2) := by rfl) : JHs X (e :: es) (hC g gr) (n + 1) :=
  ⟨PGs.weak (pgs_cons h hr.pg hs) fun vs σ H Q ⟨env, S, W, ds, hE, hS, r, k⟩ => by
    cases ds with
    | nil => exact k.elim
    | cons d ds =>
      obtain ⟨x, xs, rfl, rx, rr⟩ := r
      have k : (match (g d env S).bind fun e => gr ds e.1 e.2 with
        | some r => ∀ W' σ' H', Stp W H W' H' → SimE X.K W' r.1 σ' → SimS X.K W' r.2 H' → Q σ' H'
        | none => False) := k
      refine ⟨x, xs, rfl, env, S, W, d, hE, hS, rx, ?_⟩
      cases h1 : g d env S with
      | none => rw [h1] at k; exact k.elim
      | some r1 =>
        rw [h1] at k
        simp only [Option.bind_some] at k
        intro W1 σ1 H1 e1 hE1 s1
        refine ⟨r1.1, r1.2, W1, ds, hE1, s1, rr.mono e1.le, ?_⟩
        cases h2 : gr ds r1.1 r1.2 with
        | none => rw [h2] at k; exact k.elim
        | some r2 =>
          rw [h2] at k
          exact fun W2 σ2 H2 e2 hE2 s2 => k W2 σ2 H2 (e1.trans e2) hE2 s2, fun ds env S r h => by
    cases ds with
    | nil => cases h
    | cons d ds =>
      have h : ((g d env S).bind fun e => gr ds e.1 e.2) = some r := h
      cases h1 : g d env S with
      | none => rw [h1] at h; cases h
      | some r1 =>
        rw [h1] at h
        rw [List.length_cons, hr.fits _ _ _ _ h]⟩
def hT (g : DHs) : DH := fun d env S => match d with
  | .tup ds => g ds env S
  | _ => none
theorem jh_tup (c : Ctx X Wx k) {kk : Nat} {g : DHs} (h : JHs X es g n) (hn : (assignEach es X.env).length = n := by rfl) (hst : (assignEach es X.env).findIdx? (·.1) = none := by rfl) : JH X (.Tuple es kk pos) (hT g) :=
  PG.weak (pg_tup c.cm h.pg hn hst) fun v σ H Q ⟨env, S, W, d, hE, hS, r, k⟩ => by
    cases d with
    | tup ds =>
      obtain ⟨a, xs, rfl, hx, rr⟩ := r.tup
      refine ⟨a, xs, rfl, hS.t hx, ?_, env, S, W, ds, hE, hS, rr.vs, k⟩
      have k : (match g ds env S with
        | some r => ∀ W' σ' H', Stp W H W' H' → SimE X.K W' r.1 σ' → SimS X.K W' r.2 H' → Q σ' H'
        | none => False) := k
      cases h1 : g ds env S with
      | none => rw [h1] at k; exact k.elim
      | some r1 => rw [rr.length]; exact h.fits _ _ _ _ h1
    | _ => exact k.elim
def sAsgH (g : DH) (m : DE) : DS := fun env S => ofE env (m env S) fun d S1 => match g d env S1 with
  | some r => .nx r.1 r.2
  | none => .stk
theorem js_asgH {m : DE} {g : DH} (hg : JH X tg g) (h : JE X Wx e m) (hs : swapsWithSole [tg] e pos.line X.env = pure false := by rfl) (hw : swappedStores [tg] e X.env = pure none := by rfl) (h1 : (assignEach [tg] X.env).map (·.2) = [assign tg X.env] := by rfl) :
    JS X Wx (.Assign [tg] e pos) (sAsgH g m) :=
  PS.weak (ps_asg h hg hs hw h1) fun D σ H ⟨env, S, W, hE, hS, q⟩ => ⟨env, S, W, hE, hS, post_ofE hE q fun d S1 W1 H1 v e s r q1 => by
    cases h2 : g d env S1 with
    | none => rw [h2] at q1; exact q1.elim
    | some rr =>
      rw [h2] at q1
      refine ⟨env, S1, W1, d, hE.mono e.le, s, r, ?_⟩
      rw [h2]
      exact q1⟩
/-! ### a, b = x, y -/
def sPar (i j : Nat) (ma : DA) : DS := fun env S => match ma env S with
  | .ok [d1, d2] S1 => .nx ((env.set i (some d1)).set j (some d2)) S1
  | .ok _ _ => .stk
  | .rz ex S1 => .rz ex env S1
  | .stk => .stk
theorem js_par (c : Ctx X Wx k) (i i2 : Nat) {x y : Str} {px py pt : Pos} {kt k2 : Nat} {pt2 : Pos} (ha : JA X Wx [a, b] ma) (hi : X.N[i]? = some x := by rfl) (hj : X.N[i2]? = some y := by rfl) (hij : i ≠ i2 := by decide)
    (hx : X.env.scope.names.lookup x = some .local := by rfl) (hy : X.env.scope.names.lookup y = some .local := by rfl)
    (hw : swappedStores [.Tuple [.Name x px, .Name y py] kt pt] (.Tuple [a, b] k2 pt2) X.env = pure (some [x, y]) := by rfl)
    (hs : swapsWithSole [.Tuple [.Name x px, .Name y py] kt pt] (.Tuple [a, b] k2 pt2) pos.line X.env = pure false := by rfl) : JS X Wx (.Assign [.Tuple [.Name x px, .Name y py] kt pt] (.Tuple [a, b] k2 pt2) pos) (sPar i i2 ma) :=
  PS.weak (ps_par c.cm c.nd hi hj hij hx hy ha hw hs) fun D σ H ⟨env, S, W, hE, hS, q⟩ => by
    refine ⟨env, S, W, hE, hS, ?_⟩
    unfold sPar at q
    cases h : ma env S with
    | stk => rw [h] at q; exact q.elim
    | rz ex S1 =>
      rw [h] at q
      exact fun W1 H1 cls dd e s r => q W1 σ H1 cls dd e (hE.mono e.le) s r
    | ok ds S1 =>
      rw [h] at q
      intro W1 H1 vs e1 s1 r1
      match ds, r1, q with
      | [], _, q => exact q.elim
      | [_], _, q => exact q.elim
      | [d1, d2], r1, q =>
        obtain ⟨v, w, rfl, rv, rw'⟩ := r1.two
        exact ⟨v, w, rfl, q W1 _ H1 e1 (((hE.mono e1.le).set rv i).set rw' i2) s1⟩
      | _ :: _ :: _ :: _, _, q => exact q.elim
/-! ### name op= e -/
def sAug (i : Nat) (f : Dat → Dat → Sto → Out Dat) (m : DE) : DS := fun env S => match env[i]? with
  | some (some d) => ofE env (m env S) fun y S1 => ofE env (f d y S1) fun z S2 => .nx (env.set i (some z)) S2
  | _ => .stk
def IpJ (X : Cx) (Wx : WX) (r : TIp) (f : Dat → Dat → Sto → Out Dat) : Prop := OpJ X Wx r f
theorem js_aug (c : Ctx X Wx k) (i : Nat) {op : Operator} {r : TIp} {f : Dat → Dat → Sto → Out Dat} {m : DE} (hp : PIp X op r) (hf : OpJ X Wx r f) (h : JE X Wx e m) (hi : X.N[i]? = some x := by rfl) (hx : Loc X.env.scope x := by first | exact .inl rfl | exact .inr rfl)
    (hfn : X.fn x = true ∨ X.env.scope.names.lookup x = some .local := by first | exact .inl rfl | exact .inr rfl | assumption) : JS X Wx (.AugAssign (.Name x pos') op e pos) (sAug i f m) :=
  PS.weak (ps_aug c.nd hi hx h hp hfn) fun D σ H ⟨env, S, W, hE, hS, q⟩ => by
    unfold sAug at q
    split at q
    · rename_i d hd
      obtain ⟨v, e1, r1⟩ := hE.at_ i d hd
      refine ⟨v, e1, env, S, W, hE, hS, post_ofE hE q fun y S1 W1 H1 vy ee s ry q1 => ?_⟩
      have rd := r1.mono ee.le
      refine hf W1 S1 σ H1 v vy d y _ s rd ry (post_ofE (hE.mono ee.le) q1 fun z S2 W2 H2 vz e2 s2 rz q2 => ?_)
      exact q2 W2 _ H2 .refl (((hE.mono ee.le).mono e2.le).set rz i) s2
    · exact q.elim
theorem ip_addI : PIp X .Add (fun x y H Q => (∃ i j, x = .int i ∧ y = .int j ∧ Q (.int (i + j)) H)) := ip_add
theorem oj_ipAdd : OpJ X Wx (ipI fun i j => i + j) dAdd := fun W S σ H x y a b Q hS rx ry q => by
  unfold dAdd dI2 at q
  split at q
  · cases rx.int
    cases ry.int
    exact ⟨_, _, rfl, rfl, q W H _ .refl hS (.inr rfl)⟩
  · exact q.elim
/-! ### methods of texts and lists -/
def mBS (f : Str → List Dat → Sto → Out Dat) (mo : DE) (ma : DA) : DE := fun env S => (mo env S).bind fun d S1 => match d with
  | .str z => (ma env S1).bind fun ds S2 => f z ds S2
  | _ => .stk
def SmJ (X : Cx) (Wx : WX) (r : V → List V → Hp → VK → Prop) (f : Str → List Dat → Sto → Out Dat) : Prop := ∀ (W : Wd) (S : Sto) (σ : St) (H : Hp) (z : Str) (vs : List V) (ds : List Dat) (Q : VK), SimS X.K W S H → RepVs X.K W ds vs → PostE X.K W H Wx σ (f z ds S) Q → r (.str z) vs H Q
theorem je_bmS {nm : Str} {id : String} {r : V → List V → Hp → VK → Prop} {f : Str → List Dat → Sto → Out Dat} (slot : Slot "str" nm id) (hty : typeOf (.builtin id) = pure (.type "method_descriptor")) (hm : MtR X id r) (hf : SmJ X Wx r f) (ho : JE X Wx o mo) (ha : JA X Wx (e :: es) ma)
    (hbase : attributeBase o nm X.env (eval o X.env) = eval o X.env := by rfl)
    (hfew : ((backTo cpos (starEach (e :: es) X.env)).all (fun x => !x.1) && (backToKw cpos (keywordEach [] X.env)).all (fun x => x.1.isSome)
      && decide ((e :: es).length + ([] : List Keyword).length + (if ([] : List Keyword).isEmpty then 0 else 1) < 30)) = true := by rfl)
    (hline : (apos.endLine == cpos.line) = true := by rfl) (hs : starEach (e :: es) X.env = (false, eval e X.env) :: starEach es X.env := by rfl) (hplain : (backTo cpos (starEach es X.env)).any (·.1) = false := by rfl) : JE X Wx (.Call (.Attribute o nm apos) (e :: es) [] cpos) (mBS f mo ma) :=
  PE.weak (pe_bm PySem.F.plainAttrs_str slot hty hm ho ha hbase hfew hline hs hplain) fun σ H Q ⟨env, S, W, hE, hS, q⟩ => tE_bind hE hS q fun d S1 W1 H1 v e1 s1 r1 q1 => by
    cases d with
    | str z =>
      cases r1.str
      exact ⟨rfl, env, S1, W1, hE.mono e1.le, s1, post_bindA q1 fun ds S2 W2 H2 vs _ e2 s2 r2 q2 => hf W2 S2 σ H2 z vs ds Q s2 r2 q2⟩
    | _ => exact q1.elim
theorem je_bmS0 {nm : Str} {id : String} {r : V → List V → Hp → VK → Prop} {f : Str → List Dat → Sto → Out Dat} (slot : Slot "str" nm id) (hty : typeOf (.builtin id) = pure (.type "method_descriptor")) (hm : MtR X id r) (hf : SmJ X Wx r f) (ho : JE X Wx o mo)
    (hbase : attributeBase o nm X.env (eval o X.env) = eval o X.env := by rfl) (hline : (apos.endLine == cpos.line) = true := by rfl) : JE X Wx (.Call (.Attribute o nm apos) [] [] cpos) (mBS f mo mNil) :=
  PE.weak (pe_bm0 PySem.F.plainAttrs_str slot hty hm ho hbase hline) fun σ H Q ⟨env, S, W, hE, hS, q⟩ => tE_bind hE hS q fun d S1 W1 H1 v e1 s1 r1 q1 => by
    cases d with
    | str z =>
      cases r1.str
      exact ⟨rfl, hf W1 S1 σ H1 z [] [] Q s1 rfl q1⟩
    | _ => exact q1.elim
def mBL (f : Nat → List Dat → Sto → Out Dat) (mo : DE) (ma : DA) : DE := fun env S => (mo env S).bind fun d S1 => match d with
  | .cell l => if (lstOf (.cell l) S1).isSome = true then (ma env S1).bind fun ds S2 => f l ds S2 else .stk
  | _ => .stk
def LmJ (X : Cx) (Wx : WX) (r : V → List V → Hp → VK → Prop) (f : Nat → List Dat → Sto → Out Dat) : Prop := ∀ (W : Wd) (S : Sto) (σ : St) (H : Hp) (l : Nat) (v : V) (vs : List V) (ds : List Dat) (Q : VK), SimS X.K W S H → RepV X.K W (.cell l) v → RepVs X.K W ds vs → PostE X.K W H Wx σ (f l ds S) Q → r v vs H Q
theorem je_bmL {nm : Str} {id : String} {r : V → List V → Hp → VK → Prop} {f : Nat → List Dat → Sto → Out Dat} (slot : Slot "list" nm id) (hty : typeOf (.builtin id) = pure (.type "method_descriptor")) (hm : MtR X id r) (hf : LmJ X Wx r f) (ho : JE X Wx o mo) (ha : JA X Wx (e :: es) ma)
    (hbase : attributeBase o nm X.env (eval o X.env) = eval o X.env := by rfl)
    (hfew : ((backTo cpos (starEach (e :: es) X.env)).all (fun x => !x.1) && (backToKw cpos (keywordEach [] X.env)).all (fun x => x.1.isSome)
      && decide ((e :: es).length + ([] : List Keyword).length + (if ([] : List Keyword).isEmpty then 0 else 1) < 30)) = true := by rfl)
    (hline : (apos.endLine == cpos.line) = true := by rfl) (hs : starEach (e :: es) X.env = (false, eval e X.env) :: starEach es X.env := by rfl) (hplain : (backTo cpos (starEach es X.env)).any (·.1) = false := by rfl) : JE X Wx (.Call (.Attribute o nm apos) (e :: es) [] cpos) (mBL f mo ma) :=
  PE.weak (pe_bm PySem.F.plainAttrs_list slot hty hm ho ha hbase hfew hline hs hplain) fun σ H Q ⟨env, S, W, hE, hS, q⟩ => tE_bind hE hS q fun d S1 W1 H1 v e1 s1 r1 q1 => by
    cases d with
    | cell l =>
      simp only at q1
      by_cases hl : (lstOf (.cell l) S1).isSome = true
      · rw [if_pos hl] at q1
        obtain ⟨ds, hd⟩ := Option.isSome_iff_exists.mp hl
        obtain ⟨a, xs, h1, h2, h3⟩ := lstOf_at s1 r1 hd
        subst h1
        exact ⟨.inl ⟨rfl, xs, h2⟩, env, S1, W1, hE.mono e1.le, s1, post_bindA q1 fun ds S2 W2 H2 vs _ e2 s2 r2 q2 => hf W2 S2 σ H2 l _ vs ds Q s2 (r1.mono e2.le) r2 q2⟩
      · rw [if_neg hl] at q1
        exact q1.elim
    | _ => exact q1.elim
def fApp : Nat → List Dat → Sto → Out Dat := fun l ds S => match ds with
  | [y] => (match lstOf (.cell l) S with
    | some xs => if nc y = true ∧ xs.length < 100000 then .ok .non (S.set l (some (.lst (xs ++ [y])))) else .stk
    | none => .stk)
  | _ => .stk
theorem cellM_at {K : PySem.W.Frag} {W : Wd} {S : Sto} {H : Hp} {l : Nat} {v : V} {ds : List Dat} (hS : SimS K W S H) (r : RepV K W (.cell l) v) (h : lstOf (.cell l) S = some ds) : ∃ a xs, v = .ref a ∧ W.cs[l]? = some a ∧ W.G a = none ∧ H a = some (.lst xs) ∧ Reps K W.G ds xs := by
  obtain ⟨a, h1, h2⟩ := r.cell
  unfold lstOf at h
  simp only at h
  split at h
  · rename_i g hl
    cases h
    obtain ⟨b, o, h3, h4, h5, xs, h6, h7⟩ := hS.cel l _ hl
    rw [h1] at h3
    cases h3
    subst h6
    exact ⟨a, xs, h2, h1, h4, h5, h7⟩
  · cases h
theorem lm_app : LmJ X Wx rAppend fApp := fun W S σ H l v vs ds Q hS rl r q => by
  unfold fApp at q
  split at q
  · rename_i y
    obtain ⟨vy, rfl, ry⟩ := r.one
    cases h : lstOf (.cell l) S with
    | none => rw [h] at q; exact q.elim
    | some xs =>
      rw [h] at q
      simp only at q
      by_cases hn : nc y = true ∧ xs.length < 100000
      · rw [if_pos hn] at q
        obtain ⟨a, us, h1, h2, h3, h4, h5⟩ := cellM_at hS rl h
        obtain ⟨s1, e1⟩ := hS.setC h2 h3 (d := .lst (xs ++ [y])) (u := .lst (us ++ [vy])) ⟨_, rfl, h5.append ⟨vy, [], rfl, ry.pure hn.1, rfl⟩⟩
        exact ⟨a, us, vy, h1, rfl, h4, by rw [h5.length]; exact Nat.lt_trans hn.2 (by decide), q W _ _ e1 s1 (.inr rfl)⟩
      · rw [if_neg hn] at q
        exact q.elim
  · exact q.elim
theorem je_app (ho : JE X Wx o mo) (he : JE X Wx e me)
    (hbase : attributeBase o "append" X.env (eval o X.env) = eval o X.env := by rfl)
    (hfew : ((backTo cpos (starEach [e] X.env)).all (fun x => !x.1) && (backToKw cpos (keywordEach [] X.env)).all (fun x => x.1.isSome)
      && decide ([e].length + ([] : List Keyword).length + (if ([] : List Keyword).isEmpty then 0 else 1) < 30)) = true := by rfl)
    (hline : (apos.endLine == cpos.line) = true := by rfl) (hs : starEach [e] X.env = (false, eval e X.env) :: starEach [] X.env := by rfl) (hplain : (backTo cpos (starEach [] X.env)).any (·.1) = false := by rfl) : JE X Wx (.Call (.Attribute o "append" apos) [e] [] cpos) (mBL fApp mo (mCons me mNil)) :=
  je_bmL PySem.F.slot_list_append PySem.F.type_list_append (fun pins s σ H x xs v us Q I rx rv h => mt_append pins s σ H x xs v us Q I rx rv h) lm_app ho (ja_cons he ja_nil hs) hbase hfew hline hs hplain
end
end JL
/-! J8: freezing, iteration over anything, dict comprehensions, isinstance, fields stored. -/
namespace JL
open PySem PySem.Spec L2
section
variable {X : Cx} {Wx : WX} {j k n : Nat} {x : Str} {p pos apos cpos pos' : Pos} {e o a b tg iter : Expr} {es : List Expr} {ma mr : DA} {mo m1 m2 me mi' : DE} {mi : DI}
/-! ### a cell comes to rest: a step of the proof alone -/
def unCell (l : Nat) (d : Dat) : Dat → Dat
  | .cell m => if m = l then d else .cell m
  | x => x
def sFrz (i : Nat) (r : DS) : DS := fun env S => match env[i]? with
  | some (some (.cell l)) => (match S[l]? with
    | some (some d) => r (env.map fun o => o.map (unCell l d)) (S.set l none)
    | _ => .stk)
  | _ => r env S
theorem CellOk.rep {K : PySem.W.Frag} {G : Hp} {a : Addr} : ∀ {d : Dat} {o : HO}, CellOk K G d o → G a = some o → Rep K G d (.ref a)
  | .lst _, _, ⟨xs, h1, h2⟩, h => ⟨a, xs, rfl, h1 ▸ h, h2⟩
  | .dct _, _, ⟨xs, h1, h2⟩, h => ⟨a, xs, rfl, .inl (h1 ▸ h), h2⟩
  | .ins _ _, _, ⟨dx, xs, h1, h2⟩, h => ⟨a, dx, xs, rfl, h1 ▸ h, h2⟩
theorem frz_at {K : PySem.W.Frag} {W : Wd} {S : Sto} {H : Hp} {env : Env} {σ : St} {l : Nat} {d : Dat} (hE : SimE K W env σ) (hS : SimS K W S H) (hl : S[l]? = some (some d)) :
    ∃ W', Stp W H W' H ∧ SimE K W' (env.map fun o => o.map (unCell l d)) σ ∧ SimS K W' (S.set l none) H := by
  obtain ⟨a, o, h1, h2, h3, h4⟩ := hS.cel l d hl
  have hll : l < W.cs.length := (List.getElem?_eq_some_iff.mp h1).1
  have eg : ExtG W.G (upd W.G a o) := ExtG.new h2
  refine ⟨⟨upd W.G a o, W.cs⟩, ⟨⟨eg, [], by simp⟩, fun c u q g nn => ⟨q, (upd_ne (fun z => nn (by rw [z]; exact List.mem_of_getElem? h1))).trans g, nn⟩⟩, ⟨by rw [List.length_map]; exact hE.len, fun i e q => ?_⟩, ⟨fun c u q => ?_, by rw [List.length_set]; exact hS.len, hS.nd, fun m e q => ?_, hS.trk⟩⟩
  · rw [List.getElem?_map] at q
    cases h5 : env[i]? with
    | none => rw [h5] at q; cases q
    | some oe =>
      cases oe with
      | none => rw [h5] at q; cases q
      | some e0 =>
        rw [h5] at q
        have q : unCell l d e0 = e := Option.some.inj (Option.some.inj q)
        obtain ⟨v, h6, h7⟩ := hE.at_ i e0 h5
        refine ⟨v, h6, ?_⟩
        have keep : RepV K ⟨upd W.G a o, W.cs⟩ e0 v := h7.mono ⟨eg, [], by simp⟩
        cases e0 with
        | cell m =>
          have q : (if m = l then d else .cell m) = e := q
          by_cases z : m = l
          · rw [if_pos z] at q
            obtain ⟨b, k1, k2⟩ := h7.cell
            rw [z, h1] at k1
            cases k1
            rw [k2, ← q]
            exact .inr ((h4.mono eg).rep upd_same)
          · rw [if_neg z] at q
            subst q
            exact keep
        | _ =>
          have q : _ = e := q
          subst q
          exact keep
  · have q : upd W.G a o c = some u := q
    by_cases z : c = a
    · subst z
      rw [upd_same] at q
      cases q
      exact h3
    · rw [upd_ne z] at q
      exact hS.sub c u q
  · by_cases z : l = m
    · subst z
      rw [List.getElem?_set_self (by rw [hS.len]; exact hll)] at q
      cases q
    · rw [List.getElem?_set_ne z] at q
      obtain ⟨c, u, k1, k2, k3, k4⟩ := hS.cel m e q
      have ne : c ≠ a := fun y => by
        subst y
        exact z ((List.getElem?_inj hll hS.nd).mp (h1.trans k1.symm))
      exact ⟨c, u, k1, (upd_ne ne).trans k2, k3, k4.mono eg⟩
theorem js_frz (i : Nat) {sts : List Stmt} {r : DS} (h : JSs X Wx sts r) : JSs X Wx sts (sFrz i r) :=
  PSs.weak h fun D σ H ⟨env, S, W, hE, hS, q⟩ => by
    unfold sFrz at q
    split at q
    · split at q
      · rename_i l _ d hd
        obtain ⟨W', e, e1, s1⟩ := frz_at hE hS hd
        exact ⟨_, _, W', e1, s1, PostS.mono e q⟩
      · exact q.elim
    · exact ⟨env, S, W, hE, hS, q⟩
/-! ### what is walked -/
def chars (z : Str) : List Dat := z.cps.toList.map fun c => .str ⟨#[c]⟩
def itP : Dat → Sto → Option (List Dat) := fun d _ => match d with
  | .lst ds => some ds
  | .tup ds => some ds
  | .dct es => some (es.map fun kv => kD kv.1)
  | .str z => some (chars z)
  | _ => none
theorem it_str {W : Wd} {H : Hp} {z : Str} : ItOk X.K W H (chars z) (Its z) := fun i W1 S1 H1 e1 s1 => by
  have hl : (chars z).length = z.cps.size := by unfold chars; rw [List.length_map, Array.length_toList]
  refine ⟨fun hi => by show z.cps.size ≤ i; rw [← hl]; exact hi, fun d hd => ?_⟩
  have hlt : i < z.cps.size := by rw [← hl]; exact (List.getElem?_eq_some_iff.mp hd).1
  refine ⟨hlt, fun y H2 ⟨e, c, hc, hy⟩ => ?_⟩
  subst e hy
  refine ⟨W1, .refl, s1, .inr ?_⟩
  unfold chars at hd
  rw [List.getElem?_map, Array.getElem?_toList, hc] at hd
  cases hd
  rfl
theorem pi_any (he : PE X e (tE X.K Wx m1)) : PI X tg e (fun σ H R => tE X.K Wx m1 σ H fun x H1 => (∃ a, x = .ref a ∧ (∃ xs, SqL X.K H1 a xs) ∧ R (Itl X.K a) H1) ∨ (∃ a, x = .ref a ∧ (∃ xs, SqT X.K H1 a xs) ∧ R (Itt X.K a) H1) ∨ (∃ z, x = .str z ∧ R (Its z) H1) ∨
    ∃ d kvs, x = .ref d ∧ ((H1 d = some (.dK kvs) ∧ ∀ od, R (Itk d od kvs) (upd H1 d (.frz od (.dK kvs)))) ∨ ∃ od, H1 d = some (.frz od (.dK kvs)) ∧ R (Itk d od kvs) H1)) := by
  refine ⟨fun pins s σ H R I h => ?_⟩
  refine thn (he.run pins s σ H _ I h) fun u s1 ⟨x, H1, I1, rx, q⟩ => ?_
  have sub : ∀ {t : TE} {ti : TI}, (∀ σ H R, ti σ H R → ti σ H R) → True := fun _ => trivial
  rcases q with ⟨a, ex, ⟨xs, hq⟩, q⟩ | ⟨a, ex, ⟨xs, hq⟩, q⟩ | ⟨z, ex, q⟩ | ⟨d, kvs, ex, q⟩
  · subst ex
    cases rx
    obtain ⟨its, rv, p, hz⟩ := I1.list hq
    refine wpAny_pyIter_list p.isList ?_
    refine ⟨s1.heap.objs.size, [s1.heap.objs.size], _, _, H1, rfl, I1.kept (t' := s1.toks) fun b o e => Heap.get?_push_of_some _ e, turn_list a _, ⟨_, Heap.get?_push_size _ rfl, rfl, rfl⟩, fun b hb => ?_, q⟩
    have e : b = s1.heap.objs.size := by simpa using hb
    subst e
    exact I1.fpOk (Nat.le_refl _) (I1.hok.fresh (Nat.le_refl _))
  · subst ex
    cases rx
    obtain ⟨its, rv, p, hz⟩ := I1.tuple hq
    refine wpAny_pyIter_tuple (show s1.heap.IsTuple a its.toArray from p) ?_
    refine ⟨s1.heap.objs.size, [s1.heap.objs.size], _, _, H1, rfl, I1.kept (t' := s1.toks) fun b o e => Heap.get?_push_of_some _ e, turn_tuple a _, ⟨_, Heap.get?_push_size _ rfl, rfl, rfl⟩, fun b hb => ?_, q⟩
    have e : b = s1.heap.objs.size := by simpa using hb
    subst e
    exact I1.fpOk (Nat.le_refl _) (I1.hok.fresh (Nat.le_refl _))
  · subst ex
    obtain ⟨t, rfl⟩ := rx
    cases ha : z.cps.all (· < 128)
    · exact wpAny_pyIter_wide ha (pi_one (tk := s1.toks) I1 _ (turn_str _ z t "str_iterator" (.inr rfl)) ⟨_, Heap.get?_push_size _ rfl, rfl, rfl⟩ q)
    · exact wpAny_pyIter_ascii ha (pi_one (tk := s1.toks) I1 _ (turn_str _ z t "str_ascii_iterator" (.inl rfl)) ⟨_, Heap.get?_push_size _ rfl, rfl, rfl⟩ q)
  · subst ex
    obtain rfl : u = Value.ref d := rx
    have key : ∀ (H2 : Hp) (od : Obj), Inv X pins σ H2 s1 → H2 d = some (.frz od (.dK kvs)) → R (Itk d od kvs) H2 → wpAny (model X.prog X.w) X.A (pyIter (.ref d)) (PIE X pins σ tg R) X.xe s1 := by
      intro H2 od I2 hd q2
      obtain ⟨hs, hgd, hx, es, ep, vs, hdt, hsz, kv, hm⟩ := I2.frzK hd
      refine iter_keys hs hgd hx hdt (pi_one (tk := s1.toks) I2 _ (turn_keys _ hdt) ⟨_, Heap.get?_push_size _ rfl, rfl, ?_⟩ q2)
      rw [hsz] <;> rfl
    rcases q with ⟨hd, q⟩ | ⟨od, hd, q⟩
    · obtain ⟨od, I2⟩ := I1.lock hd (by trivial)
      exact key _ od I2 upd_same (q od)
    · exact key _ od I1 hd q
theorem ji_any (h : JE X Wx iter m1) : JI X Wx tg iter (miE itP m1) :=
  PI.weak (pi_any h) fun σ H R q => tI_ofE q fun d ds v W1 S1 H1 s1 r1 hf k => by
    cases d with
    | lst g =>
      cases hf
      obtain ⟨a, xs, rfl, h2, h3⟩ := r1.lst
      exact .inl ⟨a, rfl, ⟨xs, s1.l h2⟩, k W1 H1 _ .refl s1 (it_list h2 h3)⟩
    | tup g =>
      cases hf
      obtain ⟨a, xs, rfl, h2, h3⟩ := r1.tup
      exact .inr (.inl ⟨a, rfl, ⟨xs, s1.t h2⟩, k W1 H1 _ .refl s1 (it_tup h2 h3)⟩)
    | str z =>
      cases hf
      cases r1.str
      exact .inr (.inr (.inl ⟨z, rfl, k W1 H1 _ .refl s1 it_str⟩))
    | dct es =>
      cases hf
      obtain ⟨a, kvs, rfl, h2, h3⟩ := r1.dct
      refine .inr (.inr (.inr ⟨a, kvs, rfl, ?_⟩))
      rcases h2 with h2 | ⟨od, h2⟩
      · refine .inl ⟨s1.sub a _ h2, fun od => ?_⟩
        obtain ⟨s2, e2⟩ := s1.lock (od := od) h2
        exact k _ _ _ e2 s2 (it_keys upd_same h3.keys)
      · exact .inr ⟨od, s1.sub a _ h2, k W1 H1 _ .refl s1 (it_keys h2 h3.keys)⟩
    | _ => cases hf
/-! ### unpacking: tuples and lists -/
def gTL (g : DGs) : DG := fun d env => match d with
  | .lst ds => g ds env
  | _ => none
theorem jg_lst {k n : Nat} (c : Ctx X Wx k) {es : List Expr} {kk : Nat} {L : List Nat} {g : DGs} {pos : Pos} (h : JGs X es L g) (hf : DGs.fits g n) (hn : (assignEach es X.env).length = n := by rfl) (hst : (assignEach es X.env).findIdx? (·.1) = none := by rfl) : JG X (.Tuple es kk pos) L (gTL g) :=
  PG.weak (pg_unl c.cm h hn hst) fun v σ H Q ⟨env, env', S, W, d, hE, hS, r, e, k⟩ => by
    cases d with
    | lst ds =>
      obtain ⟨a, xs, rfl, hx, rr⟩ := r.lst
      exact ⟨a, xs, rfl, hS.l hx, by rw [rr.length]; exact hf _ _ _ e, env, env', S, W, ds, hE, hS, rr.vs, e, k⟩
    | _ => cases e
/-! ### dict comprehensions -/
def dcL (g : DG) (t : DT) (mk mv : DE) (env0 : Env) : List Dat → List (Key × Dat) → Sto → Out (List (Key × Dat))
  | [], acc, S => .ok acc S
  | d :: ds, acc, S => match g d env0 with
    | none => .stk
    | some e1 => (t e1 S).bindN fun c S1 => if c = true then (mk e1 S1).bindN fun y S2 => (mv e1 S2).bindN fun z S3 => match keyOf y with
        | some k => if nc z = true then dcL g t mk mv env0 ds (dPutK acc k z) S3 else .stk
        | none => .stk
      else dcL g t mk mv env0 ds acc S1
def mDc (mi : DI) (g : DG) (t : DT) (mk mv : DE) (vs : List Nat) : DE := fun env S => (mi env S).bind fun ds S1 => if ds.length ≤ 100000 then (dcL g t mk mv (wipeE env vs) ds [] S1).bind fun ys S2 => .ok (.dct ys) S2 else .stk
structure DcAt (K : PySem.W.Frag) (Wx : WX) (σ : St) (W0 : Wd) (H0 : Hp) (D : Addr) (rest : List (Key × Dat) → Sto → Out (List (Key × Dat))) (Q : VK) (i : Nat) (S : Sto) (W : Wd) (H : Hp) (acc : List (Key × Dat)) (xs : List (Key × V)) : Prop where
  st : Stp W0 H0 W H
  si : SimS K W S H
  hd : H D = some (.dK xs)
  hg : W.G D = none
  hc : D ∉ W.cs
  rp : RepK K W.G acc xs
  ln : xs.length ≤ i
  po : PostE K W0 H0 Wx σ ((rest acc S).bind fun ys S' => .ok (.dct ys) S') Q
theorem dc_turn {K : PySem.W.Frag} {σ : St} {W0 : Wd} {H0 : Hp} {D : Addr} {g : DG} {t : DT} {mk mv : DE} {env0 : Env} {vs L : List Nat} {ds : List Dat} {Q : VK} {i : Nat} {S : Sto} {W : Wd} {H H2 : Hp} {W2 : Wd} {acc : List (Key × Dat)} {xs : List (Key × V)} {d : Dat} {x : V} {Nx : Hp → Prop}
    (h0 : H0 D = none) (hL : ∀ i ∈ L, i ∈ vs) (hE : SimE K W0 env0 (L2.wipe σ vs)) (hl : ds.length ≤ 100000) (hd : ds[i]? = some d) (p : DcAt K Wx σ W0 H0 D (dcL g t mk mv env0 (ds.drop i)) Q i S W H acc xs) (e2 : Stp W H W2 H2) (s2 : SimS K W2 S H2) (r : RepV K W2 d x)
    (hN : ∀ S W H acc xs, DcAt K Wx σ W0 H0 D (dcL g t mk mv env0 (ds.drop (i + 1))) Q (i + 1) S W H acc xs → Nx H) :
    tG K L g x (L2.wipe σ vs) H2 fun σ2 H3 => L2.wipe σ2 vs = L2.wipe σ vs ∧ tT K WF t σ2 H3 fun b H4 => if b = true then tE K WF mk σ2 H4 fun y H5 => tE K WF mv σ2 H5 fun z H6 => ∃ kvs k, y = kV k ∧ H6 D = some (.dK kvs) ∧ kvs.length < sizeLine ∧ Nx (upd H6 D (.dK (putK kvs k z))) else Nx H4 := by
  obtain ⟨p1, p2, p3, p4, p5, p6, p7, p8⟩ := p
  obtain ⟨hlt, he⟩ := List.getElem?_eq_some_iff.mp hd
  rw [List.drop_eq_getElem_cons hlt, he] at p8
  have q1 : PostE K W0 H0 Wx σ ((match g d env0 with
    | none => Out.stk
    | some e1 => (t e1 S).bindN fun c S1 => if c = true then (mk e1 S1).bindN fun y S2 => (mv e1 S2).bindN fun z S3 => match keyOf y with
        | some k => if nc z = true then dcL g t mk mv env0 (ds.drop (i + 1)) (dPutK acc k z) S3 else .stk
        | none => .stk
      else dcL g t mk mv env0 (ds.drop (i + 1)) acc S1).bind fun ys S' => .ok (.dct ys) S') Q := p8
  cases h1 : g d env0 with
  | none => rw [h1] at q1; exact q1.elim
  | some e1 =>
    simp only [h1] at q1
    have st2 := p1.trans e2
    obtain ⟨d1, g1, c1⟩ := e2.kp D _ p3 p4 p5
    refine ⟨env0, e1, S, W2, d, hE.mono st2.le, s2, r, h1, fun σ2 hE2 o2 => ⟨wipe_off hL o2, e1, S, W2, hE2, s2, ?_⟩⟩
    refine post_bindNT q1 fun c S3 W3 H3 e3 s3 q3 => ?_
    obtain ⟨d3, g3, c3⟩ := e3.kp D _ d1 g1 c1
    cases c with
    | false => exact hN S3 W3 H3 acc xs ⟨st2.trans e3, s3, d3, g3, c3, p6.mono (e2.trans e3).le.G, Nat.le_succ_of_le p7, q3⟩
    | true =>
      refine ⟨e1, S3, W3, hE2.mono e3.le, s3, ?_⟩
      refine post_bindN q3 fun y S4 W4 H4 v e4 s4 r4 q4 => ?_
      obtain ⟨d4, g4, c4⟩ := e4.kp D _ d3 g3 c3
      refine ⟨e1, S4, W4, (hE2.mono e3.le).mono e4.le, s4, ?_⟩
      refine post_bindN q4 fun z S5 W5 H5 vz e5 s5 r5 q5 => ?_
      obtain ⟨d5, g5, c5⟩ := e5.kp D _ d4 g4 c4
      cases hk : keyOf y with
      | none => simp only [hk] at q5; exact q5.elim
      | some ky =>
        simp only [hk] at q5
        by_cases hn : nc z = true
        · rw [if_pos hn] at q5
          refine ⟨xs, ky, keyOf_at r4 hk, d5, Nat.lt_of_le_of_lt p7 (Nat.lt_of_lt_of_le hlt (Nat.le_trans hl (by decide))), ?_⟩
          have st5 := ((st2.trans e3).trans e4).trans e5
          refine hN S5 W5 _ (dPutK acc ky z) (putK xs ky vz) ⟨st5.out h0, s5.out g5 c5, upd_same, g5, c5, (p6.mono (((e2.trans e3).trans e4).trans e5).le.G).put (r5.pure hn), ?_, q5⟩
          exact Nat.le_trans (length_putK xs ky vz) (Nat.succ_le_succ p7)
        · rw [if_neg hn] at q5
          exact q5.elim
theorem dc_done {K : PySem.W.Frag} {σ : St} {W0 : Wd} {H0 : Hp} {D : Addr} {g : DG} {t : DT} {mk mv : DE} {env0 : Env} {ds : List Dat} {Q : VK} {i : Nat} {S : Sto} {W : Wd} {H : Hp} {acc : List (Key × Dat)} {xs : List (Key × V)} (h0 : H0 D = none)
    (hi : ds.length ≤ i) (p : DcAt K Wx σ W0 H0 D (dcL g t mk mv env0 (ds.drop i)) Q i S W H acc xs) : Q (.ref D) H := by
  obtain ⟨p1, p2, p3, p4, p5, p6, p7, p8⟩ := p
  rw [List.drop_eq_nil_of_le hi] at p8
  have q : PostE K W0 H0 Wx σ (.ok (.dct acc) S) Q := p8
  refine q ⟨upd W.G D (.dK xs), W.cs⟩ H (.ref D) ⟨p1.le.trans ⟨ExtG.new p4, [], by simp⟩, fun a u e g n => ?_⟩ (p2.adopt p3 p4 p5) (.inr ⟨D, xs, rfl, .inl upd_same, p6.mono (ExtG.new p4)⟩)
  obtain ⟨k1, k2, k3⟩ := p1.kp a u e g n
  exact ⟨k1, (upd_ne (ne_of_none e h0)).trans k2, k3⟩
theorem dc_go {σ : St} {H : Hp} {Q : VK} {g : DG} {t : DT} {mk mv : DE} {vs L : List Nat} (hL : ∀ i ∈ L, i ∈ vs) (h : tE X.K Wx (mDc mi g t mk mv vs) σ H Q) : tDc (tI X.K Wx mi) (tG X.K L g) (tT X.K WF t) (tE X.K WF mk) (tE X.K WF mv) vs σ H Q := by
  obtain ⟨env, S, W, hE, hS, q⟩ := h
  refine ⟨env, S, W, hE, hS, ?_⟩
  unfold mDc at q
  cases h : mi env S with
  | stk => rw [h] at q; exact q.elim
  | rz ex S' => rw [h] at q; exact q
  | ok ds S' =>
    rw [h] at q
    intro W' H' J e s ho D hD
    have q1 : PostE X.K W H Wx σ (if ds.length ≤ 100000 then (dcL g t mk mv (wipeE env vs) ds [] S').bind fun ys S2 => .ok (.dct ys) S2 else .stk) Q := q
    by_cases hl : ds.length ≤ 100000
    · rw [if_pos hl] at q1
      have hE' : SimE X.K W' (wipeE env vs) (L2.wipe σ vs) := (hE.mono e.le).wipe vs
      have hg : W'.G D = none := by
        cases z : W'.G D with
        | none => rfl
        | some u => exact absurd hD (s.ex z)
      have hc : D ∉ W'.cs := fun z => s.trk D z hD
      refine ⟨fun i m H1 => m = ds.length - i ∧ i ≤ ds.length ∧ ∃ S W1 acc xs, DcAt X.K Wx σ W' H' D (dcL g t mk mv (wipeE env vs) (ds.drop i)) Q i S W1 H1 acc xs, ⟨_, rfl, Nat.zero_le _, S', W', [], [], ?_⟩, ?_⟩
      · exact ⟨Stp.out .refl hD, s.out hg hc, upd_same, hg, hc, rfl, Nat.le_refl _, PostE.mono (o := (dcL g t mk mv (wipeE env vs) ds [] S').bind fun ys S2 => .ok (.dct ys) S2) e q1⟩
      · rintro i m H1 ⟨rfl, hi, S1, W1, acc, xs, p⟩
        obtain ⟨ho1, ho2⟩ := ho i W1 S1 H1 p.st p.si
        by_cases hlt : i < ds.length
        · obtain ⟨hgo, hy⟩ := ho2 ds[i] (List.getElem?_eq_getElem hlt)
          refine .inr ⟨hgo, fun H2 => ∃ S W1 acc xs, DcAt X.K Wx σ W' H' D (dcL g t mk mv (wipeE env vs) (ds.drop (i + 1))) Q (i + 1) S W1 H2 acc xs, fun H2 p' => ⟨_, Nat.sub_lt_sub_left hlt (Nat.lt_succ_self i), rfl, hlt, p'⟩, fun x H2 y => ?_⟩
          obtain ⟨W2, e2, s2, r2⟩ := hy x H2 y
          exact dc_turn hD hL hE' hl (List.getElem?_eq_getElem hlt) p e2 s2 r2 fun S W H acc xs p => ⟨S, W, acc, xs, p⟩
        · have hi2 : i = ds.length := by omega
          subst hi2
          exact .inl ⟨ho1 (Nat.le_refl _), dc_done hD (Nat.le_refl _) p⟩
    · rw [if_neg hl] at q1
      exact q1.elim
theorem je_dc (c : Ctx X Wx k) {kx vx : Expr} {ifs : List Expr} {scope : Scope} {own : List (Str × Nat)} {L : List Nat} {g : DG} {t : DT} {mk mv : DE} (hi : JI X Wx tg iter mi) (ok : blkC X.N X.env.scope scope own = true)
    (hg : ∀ (s : Shared) (H : Hp) (C : Addr) (cl : List (Str × Addr)) (fp : List Addr), Ctx (X.blk s H scope (compEnvC scope cl C X.env) fp) WF k → JG (X.blk s H scope (compEnvC scope cl C X.env) fp) tg L g)
    (ht : ∀ (s : Shared) (H : Hp) (C : Addr) (cl : List (Str × Addr)) (fp : List Addr), Ctx (X.blk s H scope (compEnvC scope cl C X.env) fp) WF k → PTs (X.blk s H scope (compEnvC scope cl C X.env) fp) ifs (tT X.K WF t))
    (hk : ∀ (s : Shared) (H : Hp) (C : Addr) (cl : List (Str × Addr)) (fp : List Addr), Ctx (X.blk s H scope (compEnvC scope cl C X.env) fp) WF k → JE (X.blk s H scope (compEnvC scope cl C X.env) fp) WF kx mk)
    (he : ∀ (s : Shared) (H : Hp) (C : Addr) (cl : List (Str × Addr)) (fp : List Addr), Ctx (X.blk s H scope (compEnvC scope cl C X.env) fp) WF k → JE (X.blk s H scope (compEnvC scope cl C X.env) fp) WF vx mv)
    (hL : ∀ i ∈ L, i ∈ own.map (·.2) := by decide) (hs : ∀ x, foldedSetIterable iter X.env x = pure x := by intro _; rfl) : JE X Wx (.DictComp kx vx [⟨tg, iter, ifs, 0⟩] scope pos) (mDc mi g t mk mv (own.map (·.2))) :=
  PE.weak (pe_dc c.cm c.nd hi (blkOk_by ok) (fun s H C cl fp => hg s H C cl fp (c.blk s H scope _ fp)) (fun s H C cl fp => ht s H C cl fp (c.blk s H scope _ fp)) (fun s H C cl fp => hk s H C cl fp (c.blk s H scope _ fp)) (fun s H C cl fp => he s H C cl fp (c.blk s H scope _ fp)) hs) fun σ H Q h => dc_go hL h
/-! ### displays with stars; xs[::-1] -/
def mStar (m : DE) (r : DA) : DA := fun env S => (m env S).bind fun d S1 => match seqOf d S1 with
  | some xs => (r env S1).bind fun ds S2 => .ok (xs ++ ds) S2
  | none => .stk
theorem ja_star {m : DE} {r : DA} (h : JE X Wx e m) (hr : JA X Wx es r) (hs : starEach (.Starred e p :: es) X.env = (true, eval e X.env) :: starEach es X.env := by rfl) : JA X Wx (.Starred e p :: es) (mStar m r) :=
  PA.weak (StX.pa_star h hr hs) fun σ H Q ⟨env, S, W, hE, hS, q⟩ => by
    refine ⟨env, S, W, hE, hS, ?_⟩
    unfold mStar at q
    cases h1 : m env S with
    | stk => rw [h1] at q; exact q.elim
    | rz ex S1 => rw [h1] at q; exact q
    | ok d S1 =>
      rw [h1] at q
      intro W1 H1 x e1 hS1 rx
      simp only [Out.bind] at q
      cases h2 : seqOf d S1 with
      | none => rw [h2] at q; exact q.elim
      | some xs =>
        rw [h2] at q
        simp only at q
        obtain ⟨a, ys, k1, k2, k3⟩ := seqOf_at hS1 rx h2
        refine ⟨a, ys, k1, k2.symm, env, S1, W1, hE.mono e1.le, hS1, ?_⟩
        cases h3 : r env S1 with
        | stk => rw [h3] at q; exact q.elim
        | rz ex S2 => rw [h3] at q; exact PostA.mono (o := .rz ex S2) (Q := Q) e1 q
        | ok b S2 =>
          rw [h3] at q
          intro W2 H2 y e2 hS2 ry
          exact q W2 H2 (ys ++ y) (e1.trans e2) hS2 (RepVs.append ((Reps.vs k3).mono e2.le) ry)
def mLstV (ma : DA) : DE := fun env S => (ma env S).bind fun ds S1 => if ds.all nc = true ∧ ds.length ≤ 100000 then .ok (.lst ds) S1 else .stk
theorem je_lstV (ha : JA X Wx es ma) : JE X Wx (.List es pos) (mLstV ma) :=
  PE.weak (pe_lst ha) fun σ H Q ⟨env, S, W, hE, hS, q⟩ => ⟨env, S, W, hE, hS, post_bindA q fun ds S1 W1 H1 vs ho _ s1 r q1 => by
    by_cases h : ds.all nc = true ∧ ds.length ≤ 100000
    · rw [if_pos h] at q1
      have rp := r.pure h.1
      refine ⟨by rw [r.length]; exact le_line h.2, fun p hp => post_new s1 q1 hp fun G eg hg => ⟨p, vs, rfl, hg, rp.mono eg⟩⟩
    · rw [if_neg h] at q1
      exact q1.elim⟩
def mRev (m : DE) : DE := fun env S => (m env S).bind fun d S1 => match lstOf d S1 with
  | some xs => .ok (.lst xs.reverse) S1
  | none => .stk
theorem Reps.reverse {K : PySem.W.Frag} {G : Hp} : ∀ {ds : List Dat} {xs : List V}, Reps K G ds xs → Reps K G ds.reverse xs.reverse
  | [], _, h => by cases h; rfl
  | d :: ds, _, ⟨x, r, e, h1, h2⟩ => by
    subst e
    rw [List.reverse_cons, List.reverse_cons]
    exact (Reps.reverse h2).snoc h1
theorem je_rev {kk : Nat} {p1 p2 p3 : Pos} (h : JE X Wx e mo) : JE X Wx (.Subscript e (.Slice none none (some (.UnaryOp .USub (.Constant (.int 1) kk p1) p2)) p3) pos) (mRev mo) :=
  PE.weak (pe_revL h) fun σ H Q ⟨env, S, W, hE, hS, q⟩ => tE_bind hE hS q fun d S1 W1 H1 v e1 s1 r1 q1 => by
    cases h1 : lstOf d S1 with
    | none => rw [h1] at q1; exact q1.elim
    | some xs =>
      rw [h1] at q1
      obtain ⟨a, ys, k1, k2, k3⟩ := lstOf_at s1 r1 h1
      exact ⟨a, ys, k1, k2, fun p hp => post_new s1 q1 hp fun G eg hg => ⟨p, _, rfl, hg, k3.reverse.mono eg⟩⟩
/-! ### isinstance -/
inductive TyN where
  | b (n : String)
  | o (C : Str)
  deriving DecidableEq
def tyD (d : Dat) (S : Sto) : Option TyN := match d with
  | .non => some (.b "NoneType")
  | .bl _ => some (.b "bool")
  | .int _ => some (.b "int")
  | .str _ => some (.b "str")
  | .lst _ => some (.b "list")
  | .tup _ => some (.b "tuple")
  | .dct _ => some (.b "dict")
  | .ins C _ => some (.o C)
  | .cell l => (match S[l]? with
    | some (some (.lst _)) => some (.b "list")
    | some (some (.dct _)) => some (.b "dict")
    | some (some (.ins C _)) => some (.o C)
    | _ => none)
  | _ => none
def clD : Dat → Option TyN
  | .ty n => some (.b n)
  | .glo C => some (.o C)
  | _ => none
def Tv (K : PySem.W.Frag) : TyN → Value
  | .b n => .type n
  | .o C => .ref (He.ga K C)
structure InsTy (K : PySem.W.Frag) (C : Addr) : Prop where
  cl : Cls K C
  ha : PySem.W.findIn K (.ref C) "__class__" = some (some (.builtin "object.__class__"))
  hn : PySem.W.specialIn K (.builtin "object.__class__") "__get__" = some (some (.builtin "getset_descriptor.__get__"))
  htk : PySem.W.takesIn K (.builtin "object.__class__") = some true
  hm : PySem.W.mroIn K C (.type "object") = some true
abbrev IsT := List ((TyN × TyN) × Bool)
structure IsF (K : PySem.W.Frag) (T : IsT) : Prop where
  kit : ∀ e ∈ T, PySem.W.kitOne K (Tv K e.1.1) (Tv K e.1.2) = some e.2
  ins : ∀ e ∈ T, ∀ C, e.1.1 = .o C → InsTy K (He.ga K C)
def isL (T : IsT) (t u : TyN) : Option Bool := match T with
  | [] => none
  | e :: r => if e.1 = (t, u) then some e.2 else isL r t u
theorem isL_mem {t u : TyN} {b : Bool} : ∀ {T : IsT}, isL T t u = some b → ((t, u), b) ∈ T
  | [], h => by cases h
  | e :: r, h => by
    unfold isL at h
    by_cases z : e.1 = (t, u)
    · rw [if_pos z] at h
      cases h
      rw [← z]
      exact List.mem_cons_self
    · rw [if_neg z] at h
      exact List.mem_cons_of_mem _ (isL_mem h)
def dIsi (T : IsT) : List Dat → Sto → Out Dat := fun ds S => match ds with
  | [d, c] => (match tyD d S, clD c with
    | some t, some u => (match isL T t u with
      | some b => .ok (.bl b) S
      | none => .stk)
    | _, _ => .stk)
  | _ => .stk
theorem tyD_at {K : PySem.W.Frag} {W : Wd} {S : Sto} {H : Hp} {d : Dat} {v : V} {t : TyN} (hS : SimS K W S H) (r : RepV K W d v) (h : tyD d S = some t) (hi : ∀ C, t = .o C → InsTy K (He.ga K C)) : TyX K H v (Tv K t) := by
  cases d with
  | non => cases r.non; cases h; exact .base .non
  | bl c => cases r.bl; cases h; exact .base (.bl c)
  | int c => cases r.int; cases h; exact .base (.int c)
  | str c => cases r.str; cases h; exact .base (.str c)
  | lst ds =>
    obtain ⟨a, xs, rfl, h2, h3⟩ := r.lstM
    cases h
    exact .base (.lst (hS.sub _ _ h2))
  | tup ds =>
    obtain ⟨a, xs, rfl, h2, h3⟩ := r.tup
    cases h
    rcases hS.t h2 with (h2 | ⟨ob, h2⟩) | ⟨o, its, m, h4, h5, _⟩
    · exact .base (.tup h2)
    · exact .fTuple h2
    · exact .kTuple h4 h5
  | dct es =>
    obtain ⟨a, xs, rfl, h2, h3⟩ := r.dct
    cases h
    rcases hS.rd h2 with h2 | ⟨ob, h2⟩
    · exact .base (.dK h2)
    · exact .fDict h2
  | ins C gs =>
    obtain ⟨a, dx, fs, rfl, h2, h3⟩ := r.ins
    cases h
    obtain ⟨i1, i2, i3, i4, i5⟩ := hi C rfl
    exact .base (.ins (hS.sub _ _ h2) i1 i2 i3 i4 i5)
  | cell l =>
    obtain ⟨a, h1, rfl⟩ := r.cell
    unfold tyD at h
    simp only at h
    split at h
    · rename_i ds hl
      obtain ⟨b, o, k1, k2, k3, xs, k4, k5⟩ := hS.cel l _ hl
      rw [h1] at k1
      cases k1
      cases h
      subst k4
      exact .base (.lst k3)
    · rename_i ds hl
      obtain ⟨b, o, k1, k2, k3, xs, k4, k5⟩ := hS.cel l _ hl
      rw [h1] at k1
      cases k1
      cases h
      subst k4
      exact .base (.dK k3)
    · rename_i C gs hl
      obtain ⟨b, o, k1, k2, k3, dx, xs, k4, k5⟩ := hS.cel l _ hl
      rw [h1] at k1
      cases k1
      cases h
      subst k4
      obtain ⟨i1, i2, i3, i4, i5⟩ := hi C rfl
      exact .base (.ins k3 i1 i2 i3 i4 i5)
    · cases h
  | ty _ => cases h
  | glo _ => cases h
  | rol _ => cases h
theorem clD_at {K : PySem.W.Frag} {W : Wd} {d : Dat} {v : V} {t : TyN} (r : RepV K W d v) (h : clD d = some t) : ClsV v (Tv K t) := by
  rcases r with ⟨l, a, rfl, _⟩ | r
  · cases h
  · cases d with
    | ty n => cases h; cases (show v = .ty n from r); exact .ty n
    | glo C => cases h; cases (show v = .ref (He.ga K C) from r); exact .own _
    | _ => cases h
theorem cj_isi {T : IsT} (F : IsF X.K T) : CallJ X Wx (rIsi X.K) (dIsi T) := fun W S σ H vs ds Q hS r q => by
  unfold dIsi at q
  split at q
  · rename_i d c
    obtain ⟨v, w, rfl, rv, rw'⟩ := r.two
    cases h1 : tyD d S with
    | none => rw [h1] at q; exact q.elim
    | some t =>
      cases h2 : clD c with
      | none => rw [h1, h2] at q; exact q.elim
      | some u =>
        rw [h1, h2] at q
        simp only at q
        cases h3 : isL T t u with
        | none => rw [h3] at q; exact q.elim
        | some b =>
          rw [h3] at q
          have hm := isL_mem h3
          exact ⟨v, w, Tv X.K t, Tv X.K u, b, rfl, clD_at rw' h2, tyD_at hS rv h1 (fun C e => F.ins _ hm C e), F.kit _ hm, q W H _ .refl hS (.inr rfl)⟩
  · exact q.elim
theorem je_ty {T : String} (hm : X.mg x = none) (hv : bootBuiltins x = some (.type T)) (hg : Gl X x := by rfl) (hn : x ≠ "__name__" := by decide) (hd : (x == ("__debug__" : Str)) = false := by decide) : JE X Wx (.Name x pos) (mC (.ty T)) :=
  je_const (pe_bltn (v := .ty T) hg hm hv rfl hn hd) fun _ => rfl
/-! ### fields stored -/
def putFD (f : Str) (v : Dat) : List (Str × Dat) → List (Str × Dat)
  | [] => [(f, v)]
  | (g, x) :: r => if g = f then (g, v) :: r else (g, x) :: putFD f v r
theorem RepF.put {K : PySem.W.Frag} {G : Hp} {f : Str} {d : Dat} {v : V} (hd : Rep K G d v) : ∀ {es : List (Str × Dat)} {kvs : List (Str × V)}, RepF K G es kvs → RepF K G (putFD f d es) (putF f v kvs)
  | [], _, h => by cases h; exact ⟨v, [], rfl, hd, rfl⟩
  | (k', d') :: es, _, ⟨x, r, e, h1, h2⟩ => by
    subst e
    unfold putFD putF
    by_cases z : k' = f
    · rw [if_pos z, if_pos z]
      exact ⟨v, r, rfl, hd, h2⟩
    · rw [if_neg z, if_neg z]
      exact ⟨x, _, rfl, h1, RepF.put hd h2⟩
theorem RepF.length {K : PySem.W.Frag} {G : Hp} : ∀ {es : List (Str × Dat)} {kvs : List (Str × V)}, RepF K G es kvs → kvs.length = es.length
  | [], _, h => by cases h; rfl
  | (k', d') :: es, _, ⟨x, r, e, h1, h2⟩ => by rw [e, List.length_cons, List.length_cons, RepF.length h2]
def sFldM (C : Str) (f : Str) (mo mv : DE) : DS := fun env S => ofE env (mv env S) fun y S1 => ofE env (mo env S1) fun d S2 => match d with
  | .cell l => (match S2[l]? with
    | some (some (.ins D gs)) => if D = C ∧ nc y = true ∧ gs.length < 1000 then .nx env (S2.set l (some (.ins D (putFD f y gs)))) else .stk
    | _ => .stk)
  | _ => .stk
theorem js_fld {f : Str} (C : Str) (cl : Cls X.K (He.ga X.K C)) (na : NoAttr X.K (He.ga X.K C) f) (ho : JE X Wx o mo) (hv : JE X Wx e me) (hs : swapsWith e (some (.Attribute o f pos')) pos.line X.env = pure false := by rfl) : JS X Wx (.Assign [.Attribute o f pos'] e pos) (sFldM C f mo me) :=
  PS.weak (ps_fld ho hv hs) fun D σ H ⟨env, S, W, hE, hS, q⟩ => ⟨env, S, W, hE, hS, post_ofE hE q fun y S1 W1 H1 v e1 s1 r1 q1 => ⟨env, S1, W1, hE.mono e1.le, s1, post_ofE (hE.mono e1.le) q1 fun d S2 W2 H2 vd e2 s2 r2 q2 => by
    cases d with
    | cell l =>
      simp only at q2
      obtain ⟨a, h1, rfl⟩ := r2.cell
      split at q2
      · rename_i D gs hl
        by_cases hn : D = C ∧ nc y = true ∧ gs.length < 1000
        · rw [if_pos hn] at q2
          obtain ⟨rfl, hy, hz⟩ := hn
          obtain ⟨b, u, k1, k2, k3, dx, fs, k4, k5⟩ := s2.cel l _ hl
          rw [h1] at k1
          cases k1
          subst k4
          obtain ⟨s3, e3⟩ := s2.setC h1 k2 (d := .ins D (putFD f y gs)) (u := .ins (He.ga X.K D) dx (putF f v fs)) ⟨dx, _, rfl, k5.put ((r1.mono e2.le).pure hy)⟩
          exact ⟨a, _, dx, fs, rfl, k3, cl, na, by rw [k5.length]; exact hz, q2 W2 σ _ e3 ((hE.mono e1.le).mono e2.le) s3⟩
        · rw [if_neg hn] at q2
          exact q2.elim
      · exact q2.elim
    | _ => exact q2.elim⟩⟩
end
end JL
/-! J9: constants of the module, the hook, a def as a callee, the end. -/
namespace JL
open PySem PySem.Spec L2
/-! ### constants -/
mutual
def isDat (K : PySem.W.Frag) : Dat → Value → Bool
  | .non, u => (match u with
    | .none => true
    | _ => false)
  | .bl b, u => (match u with
    | .bool c => b == c
    | _ => false)
  | .int i, u => (match u with
    | .int j _ => decide (i = j)
    | _ => false)
  | .str x, u => (match u with
    | .str y _ => decide (x = y)
    | _ => false)
  | .glo x, u => (match u with
    | .ref a => decide (He.ga K x = a)
    | _ => false)
  | .tup ds, u => (match u with
    | .ref a => (match K.lookup a with
      | some ⟨.type c, _, .seq its _, _⟩ => decide (c = "tuple") && (decide (its.size ≤ sizeLine) && isDats K ds its.toList)
      | _ => false)
    | _ => false)
  | _, _ => false
def isDats (K : PySem.W.Frag) : List Dat → List Value → Bool
  | [], us => (match us with
    | [] => true
    | _ => false)
  | d :: ds, us => (match us with
    | u :: us => isDat K d u && isDats K ds us
    | _ => false)
end
mutual
theorem isDat_ok {K : PySem.W.Frag} : ∀ {d : Dat} {u : Value}, isDat K d u = true → ∃ v, RelV v u ∧ ∀ G, Rep K G d v
  | .non, u, h => by
    unfold isDat at h
    split at h
    · exact ⟨.non, rfl, fun _ => rfl⟩
    · cases h
  | .bl b, u, h => by
    unfold isDat at h
    split at h
    · rw [eq_of_beq h]
      exact ⟨.bl _, rfl, fun _ => rfl⟩
    · cases h
  | .int b, u, h => by
    unfold isDat at h
    split at h
    · rw [of_decide_eq_true h]
      exact ⟨.int _, ⟨_, rfl⟩, fun _ => rfl⟩
    · cases h
  | .str b, u, h => by
    unfold isDat at h
    split at h
    · rw [of_decide_eq_true h]
      exact ⟨.str _, ⟨_, rfl⟩, fun _ => rfl⟩
    · cases h
  | .glo x, u, h => by
    unfold isDat at h
    split at h
    · exact ⟨.ref _, congrArg Value.ref (of_decide_eq_true h).symm, fun _ => rfl⟩
    · cases h
  | .tup ds, u, h => by
    unfold isDat at h
    split at h
    · rename_i a
      split at h
      · rename_i c od its n osl hl
        rw [Bool.and_eq_true, Bool.and_eq_true] at h
        obtain ⟨h1, h2, h3⟩ := h
        obtain ⟨vs, r1, r2⟩ := isDats_ok h3
        exact ⟨.ref a, rfl, fun G => ⟨a, vs, rfl, .inr ⟨_, its, n, hl, congrArg Value.type (of_decide_eq_true h1), rfl, of_decide_eq_true h2, r1⟩, r2 G⟩⟩
      · cases h
    · cases h
  | .ty _, u, h => by cases h
  | .lst _, u, h => by cases h
  | .dct _, u, h => by cases h
  | .ins _ _, u, h => by cases h
  | .cell _, u, h => by cases h
  | .rol _, u, h => by cases h
theorem isDats_ok {K : PySem.W.Frag} : ∀ {ds : List Dat} {us : List Value}, isDats K ds us = true → ∃ vs, Vals vs us ∧ ∀ G, Reps K G ds vs
  | [], us, h => by
    unfold isDats at h
    split at h
    · exact ⟨[], .nil, fun _ => rfl⟩
    · cases h
  | d :: ds, us, h => by
    unfold isDats at h
    split at h
    · rw [Bool.and_eq_true] at h
      obtain ⟨v, r1, r2⟩ := isDat_ok h.1
      obtain ⟨vs, q1, q2⟩ := isDats_ok h.2
      exact ⟨v :: vs, .cons r1 q1, fun G => ⟨v, vs, rfl, r2 G, q2 G⟩⟩
    · cases h
end
/-- the module's constant x stands for d -/
structure Cst (K : PySem.W.Frag) (mg : Str → Option Value) (x : Str) (d : Dat) : Prop where
  ex : ∃ (v : V) (u : Value), mg x = some u ∧ RelV v u ∧ ∀ G, Rep K G d v
theorem je_cst {X : Cx} {Wx : WX} {x : Str} {d : Dat} {pos : Pos} (h : Cst X.K X.mg x d) (hg : Gl X x := by rfl) (hd : (x == ("__debug__" : Str)) = false := by decide) : JE X Wx (.Name x pos) (mC d) := by
  obtain ⟨v, u, h1, h2, h3⟩ := h.ex
  exact je_glob h1 h2 h3 hg hd
/-! ### facts -/
inductive Xa where
  | fa (f : He.Fa)
  | cst (x : Str) (d : Dat)
  | ins (C : Str)
  | kit (e : (TyN × TyN) × Bool)
def instyB (K : PySem.W.Frag) (C : Addr) : Bool := He.eqO (PySem.W.findIn K (.ref C) "__class__") (some (some (.builtin "object.__class__"))) && (He.eqO (PySem.W.specialIn K (.builtin "object.__class__") "__get__") (some (some (.builtin "getset_descriptor.__get__"))) &&
  (decide (PySem.W.takesIn K (.builtin "object.__class__") = some true) && decide (PySem.W.mroIn K C (.type "object") = some true)))
def Xa.ok (K : PySem.W.Frag) : Xa → Bool
  | .fa f => f.ok K
  | .cst x d => (match PySem.W.nsIn K mainGlobals x with
    | some (some u) => isDat K d u
    | _ => false)
  | .ins C => (He.Fa.cls C).ok K && instyB K (He.ga K C)
  | .kit e => decide (PySem.W.kitOne K (Tv K e.1.1) (Tv K e.1.2) = some e.2)
section
variable {K : PySem.W.Frag} {h : Heap} {mg : Str → Option Value}
theorem Xa.cst_ok (X : K.In h) (G : h.Ns mainGlobals mg) {x : Str} {d : Dat} (c : (Xa.cst x d).ok K = true) : Cst K mg x d := by
  have c : (match PySem.W.nsIn K mainGlobals x with
    | some (some u) => isDat K d u
    | _ => false) = true := c
  split at c
  · rename_i u hu
    obtain ⟨v, h1, h2⟩ := isDat_ok c
    exact ⟨v, u, PySem.W.mg_of X G hu, h1, h2⟩
  · cases c
theorem Xa.ins_ok {C : Str} (c : (Xa.ins C).ok K = true) : InsTy K (He.ga K C) := by
  obtain ⟨c0, c⟩ := He.ba (show ((He.Fa.cls C).ok K && instyB K (He.ga K C)) = true from c)
  obtain ⟨c1, c⟩ := He.ba c
  obtain ⟨c2, c⟩ := He.ba c
  obtain ⟨c3, c4⟩ := He.ba c
  exact ⟨He.cls_ok c0, He.eqO_ok c1, He.eqO_ok c2, of_decide_eq_true c3, of_decide_eq_true c4⟩
theorem Xa.kit_ok {e : (TyN × TyN) × Bool} (c : (Xa.kit e).ok K = true) : PySem.W.kitOne K (Tv K e.1.1) (Tv K e.1.2) = some e.2 := of_decide_eq_true c
end
/-! ### the hook -/
def refsM (o : Obj) : List Addr := match o.data with
  | .seq its _ => its.toList.flatMap He.refV
  | .dict es _ => es.toList.flatMap fun e => He.refV e.val
  | .func fd => He.refV fd.code ++ (He.refV fd.defaults ++ He.refV fd.kwdefaults)
  | .cls cd => [cd.ns]
  | .fields vs => vs.toList.flatMap He.refV
  | _ => []
def walkM (g : Addr → Option Obj) : Nat → Addr → List (Addr × Obj)
  | 0, a => (match g a with
    | some o => [(a, o)]
    | none => [])
  | n + 1, a => (match g a with
    | some o => (a, o) :: (refsM o).flatMap (walkM g n)
    | none => [])
theorem walkM_mem {g : Addr → Option Obj} : ∀ {n : Nat} {a b : Addr} {o : Obj}, (b, o) ∈ walkM g n a → g b = some o
  | 0, a, b, o, h => by
    unfold walkM at h
    split at h
    · rename_i u e
      have h := List.mem_singleton.mp h
      cases h
      exact e
    · cases h
  | n + 1, a, b, o, h => by
    unfold walkM at h
    split at h
    · rename_i u e
      rcases List.mem_cons.mp h with h | h
      · cases h
        exact e
      · obtain ⟨c, _, hc⟩ := List.mem_flatMap.mp h
        exact walkM_mem hc
    · cases h
theorem lookup_mem {K : List (Addr × Obj)} {a : Addr} {o : Obj} (h : K.lookup a = some o) : (a, o) ∈ K := by
  induction K with
  | nil => cases h
  | cons p r ih =>
    obtain ⟨b, u⟩ := p
    rw [List.lookup_cons] at h
    cases e : a == b with
    | true =>
      rw [e] at h
      have e := eq_of_beq e
      cases h
      rw [e]
      exact List.mem_cons_self
    | false =>
      rw [e] at h
      exact List.mem_cons_of_mem _ (ih h)
theorem walkM_in {h : Heap} {n : Nat} {a : Addr} : PySem.W.Frag.In (walkM h.get? n a) h := fun _ _ e => walkM_mem (lookup_mem e)
def obsM (xa : List Xa) (fn : List He.DefD) (K : PySem.W.Frag) : He.AlD := ((xa.all fun f => f.ok K) && fn.all fun d => d.ok K, fn.map fun d => He.fnW K d.at_)
def obsMG (xa : List Xa) (fn : List He.DefD) (g : Addr → Option Obj) : He.AlD := obsM xa fn (walkM g 5 mainGlobals)
def SaysM (xa : List Xa) (fn : List He.DefD) (K : PySem.W.Frag) : Prop := obsM xa fn K = He.valD fn
def hookM (xa : List Xa) (fn : List He.DefD) : PySem.W.Hook where
  α := He.AlD
  obs := fun s => obsMG xa fn s.heap.get?
  val := fun _ => He.valD fn
  says := fun _ h => ∃ K : PySem.W.Frag, K.In h ∧ SaysM xa fn K
  of := fun _ _ e => ⟨_, walkM_in, e⟩
  keeps := fun _ _ _ ⟨K, hK, c⟩ k => ⟨K, PySem.W.Frag.In.keeps hK k, c⟩
theorem obsMG_eq {xa : List Xa} {fn : List He.DefD} {g : Addr → Option Obj} {s : Shared} (h : ∀ a, g a = s.heap.get? a) : obsMG xa fn g = (hookM xa fn).obs s := by
  have e : g = s.heap.get? := funext h
  rw [e] <;> rfl
section
variable {xa : List Xa} {fn : List He.DefD} {K : PySem.W.Frag}
theorem SaysM.fact (c : SaysM xa fn K) (i : Nat) {f : Xa} (h : xa[i]? = some f := by rfl) : f.ok K = true := by
  have c1 := (He.ba (show ((xa.all fun f => f.ok K) && fn.all fun d => d.ok K) = true from congrArg (fun z : He.AlD => z.1) c)).1
  exact List.all_eq_true.mp c1 f (List.mem_of_getElem? h)
theorem SaysM.def_ (c : SaysM xa fn K) (i : Nat) {d : He.DefD} (h : fn[i]? = some d := by rfl) : ∃ fd, FunD K d.name d.qual d.params d.body d.scope (d.dvs K) (d.kws K) (He.fAd K d.at_) fd := by
  have c2 := (He.ba (show ((xa.all fun f => f.ok K) && fn.all fun d => d.ok K) = true from congrArg (fun z : He.AlD => z.1) c)).2
  have e : fn.map (fun d => He.fnW K d.at_) = fn.map He.DefD.val := congrArg (fun z : He.AlD => z.2) c
  have e2 : (fn.map fun d => He.fnW K d.at_)[i]? = (fn.map He.DefD.val)[i]? := by rw [e]
  rw [List.getElem?_map, List.getElem?_map, h] at e2
  exact He.DefD.funD (Option.some.inj e2) (List.all_eq_true.mp c2 d (List.mem_of_getElem? h))
end
/-! ### a def of positional parameters as a callee -/
section
variable {P : Program} {w : World} {K : PySem.W.Frag} {mg : Str → Option Value} {base : Heap} {x qual C : Str} {params : Arguments} {body : List Stmt} {scope : Scope} {f : Addr} {fd : FuncData} {N ps : List Str} {k n : Nat} {m : Fn}
theorem fnG_of (F : FunD K x qual params body scope [] [] f fd) (ok : FnOk P w K mg base (L2.CX P w) k f fd ps (spM K m)) (hn : n = ps.length)
    (h : ∀ (kV doc pm : Value) (an : Option Addr) (cdv ct : Value) (us : List Value), us.length = ps.length → bindArgs (PySem.W.fnOf x qual params body scope .none kV doc pm an cdv ct) ⟨us, []⟩ = pure (ps.zip us)) : FnG P w K mg base k f n [] m := FnG.of ok (FunD.bindsN F h) hn
theorem cal_of {b : Str × Option Str} (hf : f = He.ga K x) (F : FunD K x qual params body scope [] [] f fd) (ok : FnOk P w K mg base (L2.CX P w) k f fd ps (spM K m)) (hm : mg x = some (.ref (He.ga K x))) (hn : n = ps.length)
    (h : ∀ (kV doc pm : Value) (an : Option Addr) (cdv ct : Value) (us : List Value), us.length = ps.length → bindArgs (PySem.W.fnOf x qual params body scope .none kV doc pm an cdv ct) ⟨us, []⟩ = pure (ps.zip us)) : Cal P w K mg base k x n [] m := by
  subst hf
  exact ⟨_, fnG_of F ok hn h, hm, F.kp⟩
theorem mth_of {b : Str} (hf : f = He.ma K (He.ga K C) x) (F : FunD K x qual params body scope [] [] f fd) (ok : FnOk P w K mg base (L2.CX P w) k f fd ps (spM K m)) (cl : Cls K (He.ga K C)) (hm : Meth K (He.ga K C) x (He.ma K (He.ga K C) x)) (hn : n + 1 = ps.length)
    (h : ∀ (kV doc pm : Value) (an : Option Addr) (cdv ct : Value) (us : List Value), us.length = ps.length → bindArgs (PySem.W.fnOf x qual params body scope .none kV doc pm an cdv ct) ⟨us, []⟩ = pure (ps.zip us)) : Mth P w K mg base k C x n [] m := by
  subst hf
  exact ⟨cl, _, fnG_of F ok hn h, hm⟩
end
/-! ### the end -/
theorem walk_ofM {l : PySem.W.OpenLaw} {n k : Nat} {q : Program} {loose : List Str} {XP : (Str → Option Value) → Heap → Prop} {YP : World → Heap → Prop} {d : DefRec} {x : Str} {m : Fn}
    (hn : l.most = some n) (hn2 : n ≤ sizeLine) (hdf : d.params.defaults = []) (hr : Room k callerA)
    (F : ∀ (w : World) (mg : Str → Option Value) (fa : Addr) (h : Heap), YP w h → h.Ns mainGlobals mg → mg d.name = some (.ref fa) →
      ∃ (K : PySem.W.Frag) (fd : FuncData), K.In h ∧ (∀ (s : Shared) (u : Value), BindsTo s fd ⟨[u], []⟩ [(x, u)]) ∧
        ∀ base : Heap, K.In base → base.Ns mainGlobals mg → FnOk l.prog w K mg base (L2.CX l.prog w) k fa fd [x] (spM K m))
    (hm : ∀ ns : List Int, ns.length ≤ n → (∀ z ∈ ns, Builtin.Int.intBits z ≤ 1048576) → ∃ S, m [.rol (ns.map .int)] [] = .ok (.bl true) S) :
    PySem.W.WalkO q loose XP YP l.row.toRowW d [] (fun f vs => PySem.call f vs) := by
  refine Att.attach_callB hn hdf fun w s₀ s₁ mg mb fa o pm cd doc a vs ns G Y ho hd hcd hmg hobj hints hlen hbits hg => ?_
  obtain ⟨K, fd, KX, hb, hF⟩ := F w mg fa _ Y G.T.g hmg
  refine law_call KX G.T.g G.T.b G.T.builtins G.T.nolimit hg hobj hints (Nat.le_trans hlen hn2) hr hF hb (fun H hO hS => ?_) fun H e s' ⟨_, _, _, _, _, _, _, _, _, _, _, _, he⟩ => he
  obtain ⟨S, e⟩ := hm ns hlen hbits
  refine ⟨⟨H, []⟩, [], [.rol (ns.map .int)], ⟨fun _ _ h => h, rfl, .nil, fun l d h => (nomatch h), fun a h => (nomatch h)⟩, ⟨_, [], rfl, .inr ⟨a, _, rfl, hS, Reps.ints⟩, rfl⟩, ?_⟩
  rw [e]
  exact fun W' H' v _ _ r => r.bl
end JL
/-! J10: dict displays, insert, split, negation. -/
namespace JL
open PySem PySem.Spec L2
section
variable {X : Cx} {Wx : WX} {j k n : Nat} {x : Str} {p pos apos cpos pos' : Pos} {e o a b tg iter : Expr} {es : List Expr} {ma mr : DA} {mo m1 m2 me mi' : DE} {mi : DI}
/-! ### dict displays -/
abbrev DP := Env → Sto → Out (List (Dat × Dat))
def RepP (K : PySem.W.Frag) (W : Wd) : List (Dat × Dat) → List (V × V) → Prop
  | [], xs => xs = []
  | d :: ds, xs => ∃ x r, xs = x :: r ∧ RepV K W d.1 x.1 ∧ RepV K W d.2 x.2 ∧ RepP K W ds r
def PostP (K : PySem.W.Frag) (W : Wd) (H : Hp) (Wx : WX) (σ : St) (o : Out (List (Dat × Dat))) (Q : List (V × V) → Hp → Prop) : Prop := match o with
  | .ok ds S' => ∀ W' H' vs, Stp W H W' H' → SimS K W' S' H' → RepP K W' ds vs → Q vs H'
  | .rz ex S' => ∀ W' H' cls dd, Stp W H W' H' → SimS K W' S' H' → RepX K W' ex cls dd H' → Wx cls dd σ H'
  | .stk => False
theorem PostP.mono {K : PySem.W.Frag} {W W1 : Wd} {H H1 : Hp} {σ : St} {o : Out (List (Dat × Dat))} {Q : List (V × V) → Hp → Prop} (e : Stp W H W1 H1) (h : PostP K W H Wx σ o Q) : PostP K W1 H1 Wx σ o Q := by
  cases o with
  | ok d S => exact fun W2 H' v e2 => h W2 H' v (e.trans e2)
  | rz ex S => exact fun W2 H' cls dd e2 => h W2 H' cls dd (e.trans e2)
  | stk => exact h
structure JP (X : Cx) (Wx : WX) (pos : Pos) (keys : List (Option Expr)) (values : List Expr) (m : DP) : Prop where
  ex : ∃ trs, PPs X pos keys values trs ∧ ∀ env S W σ H Q, SimE X.K W env σ → SimS X.K W S H → PostP X.K W H Wx σ (m env S) Q → tPairs trs σ H Q
def mPn : DP := fun _ S => .ok [] S
def mPc (mk mv : DE) (r : DP) : DP := fun env S => (mk env S).bind fun a S1 => (mv env S1).bind fun b S2 => (r env S2).bind fun ps S3 => .ok ((a, b) :: ps) S3
theorem jp_nil : JP X Wx pos [] [] mPn := ⟨[], pps_nil, fun env S W σ H Q hE hS q => q W H [] .refl hS rfl⟩
theorem jp_cons {mk mv : DE} {r : DP} {kx vx : Expr} {ks : List (Option Expr)} {vs : List Expr} (hk : JE X Wx kx mk) (hv : JE X Wx vx mv) (hr : JP X Wx pos ks vs r) : JP X Wx pos (some kx :: ks) (vx :: vs) (mPc mk mv r) := by
  obtain ⟨trs, h1, h2⟩ := hr.ex
  refine ⟨_, pps_cons hk hv h1, fun env S W σ H Q hE hS q => ⟨env, S, W, hE, hS, ?_⟩⟩
  unfold mPc at q
  cases e1 : mk env S with
  | stk => rw [e1] at q; exact q.elim
  | rz ex S1 => rw [e1] at q; exact q
  | ok a S1 =>
    rw [e1] at q
    intro W1 H1 x s1 hS1 rx
    refine ⟨env, S1, W1, hE.mono s1.le, hS1, ?_⟩
    simp only [Out.bind] at q
    cases e2 : mv env S1 with
    | stk => rw [e2] at q; exact q.elim
    | rz ex S2 => rw [e2] at q; exact PostP.mono (o := .rz ex S2) (Q := Q) s1 q
    | ok b S2 =>
      rw [e2] at q
      intro W2 H2 y s2 hS2 ry
      refine h2 env S2 W2 σ H2 _ ((hE.mono s1.le).mono s2.le) hS2 ?_
      simp only at q
      cases e3 : r env S2 with
      | stk => rw [e3] at q; exact q.elim
      | rz ex S3 => rw [e3] at q; exact PostP.mono (o := .rz ex S3) (Q := Q) (s1.trans s2) q
      | ok ps S3 =>
        rw [e3] at q
        intro W3 H3 zs s3 hS3 rz
        exact q W3 H3 ((x, y) :: zs) ((s1.trans s2).trans s3) hS3 ⟨_, _, rfl, rx.mono (s2.trans s3).le, ry.mono s3.le, rz⟩
def mergeD (es more : List (Key × Dat)) : List (Key × Dat) := more.foldl (fun acc kv => dPutK acc kv.1 kv.2) es
def keysP : List (Dat × Dat) → Option (List (Key × Dat))
  | [] => some []
  | (a, b) :: r => match keyOf a, nc b, keysP r with
    | some k, true, some es => some ((k, b) :: es)
    | _, _, _ => none
theorem keysP_at {K : PySem.W.Frag} {W : Wd} : ∀ {ps : List (Dat × Dat)} {vs : List (V × V)} {es : List (Key × Dat)}, RepP K W ps vs → keysP ps = some es → ∃ kvs : List (Key × V), vs = kvs.map (fun kv => (kV kv.1, kv.2)) ∧ RepK K W.G es kvs
  | [], _, _, h, e => by cases h; cases e; exact ⟨[], rfl, rfl⟩
  | (a, b) :: r, _, es, ⟨x, q, e1, h1, h2, h3⟩, e => by
    unfold keysP at e
    split at e
    · rename_i k es' hk hn he
      cases e
      obtain ⟨kvs, f1, f2⟩ := keysP_at h3 he
      refine ⟨(k, x.2) :: kvs, ?_, ⟨x.2, kvs, rfl, h2.pure hn, f2⟩⟩
      rw [e1, f1, List.map_cons, ← keyOf_at h1 hk]
    · cases e
theorem RepK.merge {K : PySem.W.Frag} {G : Hp} : ∀ {more : List (Key × Dat)} {mk : List (Key × V)} {es : List (Key × Dat)} {kvs : List (Key × V)}, RepK K G more mk → RepK K G es kvs → RepK K G (mergeD es more) (mergeK kvs mk)
  | [], _, _, _, h, r => by cases h; exact r
  | (k, d) :: more, _, es, kvs, ⟨v, q, e, h1, h2⟩, r => by
    subst e
    exact RepK.merge (es := dPutK es k d) (kvs := putK kvs k v) h2 (r.put h1)
theorem SimS.pushO {K : PySem.W.Frag} {W : Wd} {S : Sto} {H : Hp} {a : Addr} {d : Dat} {u : HO} (h : SimS K W S H) (hg : W.G a = none) (hc : a ∉ W.cs) (ho : H a = some u) (hok : CellOk K W.G d u) : SimS K ⟨W.G, W.cs ++ [a]⟩ (S ++ [some d]) H := by
  refine ⟨h.sub, by rw [List.length_append, List.length_append, h.len]; rfl, ?_, fun l d' hl => ?_, fun b hb => ?_⟩
  · refine List.nodup_append.mpr ⟨h.nd, by simp, fun x hx y hy => ?_⟩
    have hy : y = a := by simpa using hy
    subst hy
    intro z
    subst z
    exact hc hx
  · by_cases hlt : l < S.length
    · rw [List.getElem?_append_left hlt] at hl
      obtain ⟨b, o, h1, h2, h3, h4⟩ := h.cel l d' hl
      exact ⟨b, o, by rw [List.getElem?_append_left (by rw [← h.len]; exact hlt)]; exact h1, h2, h3, h4⟩
    · rw [List.getElem?_append_right (by omega)] at hl
      have h0 : l - S.length = 0 := by
        have := (List.getElem?_eq_some_iff.mp hl).1
        simp at this
        omega
      rw [h0] at hl
      have hd : d = d' := by simpa using hl
      subst hd
      exact ⟨a, u, by rw [List.getElem?_append_right (by rw [← h.len]; omega), ← h.len, h0]; rfl, hg, ho, hok⟩
  · rcases List.mem_append.mp hb with hb | hb
    · exact h.trk b hb
    · have hb : b = a := by simpa using hb
      subst hb
      rw [ho]
      intro z
      cases z
def mDis (m : DP) : DE := fun env S => (m env S).bind fun ps S1 => match keysP ps with
  | some es => if es.length ≤ 15 then .ok (.dct (mergeD [] es)) S1 else .stk
  | none => .stk
def mDisC (m : DP) : DE := fun env S => (m env S).bind fun ps S1 => match keysP ps with
  | some es => if es.length ≤ 15 then .ok (.cell S1.length) (S1 ++ [some (.dct (mergeD [] es))]) else .stk
  | none => .stk
theorem disp_go {trs : List (TE × TE)} {m : DP} {f : List (Key × Dat) → Sto → Out Dat} (h2 : ∀ env S W σ H Q, SimE X.K W env σ → SimS X.K W S H → PostP X.K W H Wx σ (m env S) Q → tPairs trs σ H Q) {σ : St} {H : Hp} {Q : VK} {env : Env} {S : Sto} {W : Wd} (hE : SimE X.K W env σ) (hS : SimS X.K W S H)
    (q : PostE X.K W H Wx σ ((m env S).bind fun ps S1 => match keysP ps with
      | some es => if es.length ≤ 15 then f es S1 else .stk
      | none => .stk) Q)
    (k : ∀ es kvs S1 W1 H1 p, H p = none → Stp W H W1 H1 → SimS X.K W1 S1 H1 → H1 p = some (.dK (mergeK [] kvs)) → W1.G p = none → p ∉ W1.cs → RepK X.K W1.G (mergeD [] es) (mergeK [] kvs) → PostE X.K W H Wx σ (f es S1) Q → Q (.ref p) H1) : tDisp trs σ H Q := by
  intro p hp
  have hg : W.G p = none := by
    cases z : W.G p with
    | none => rfl
    | some u => exact absurd hp (hS.ex z)
  have hc : p ∉ W.cs := fun z => hS.trk p z hp
  have st0 : Stp W H W (upd H p (.dK [])) := Stp.out .refl hp
  refine h2 env S W σ _ _ hE (hS.out hg hc) ?_
  cases e1 : m env S with
  | stk => rw [e1] at q; exact q.elim
  | rz ex S1 =>
    rw [e1] at q
    exact fun W' H' cls dd e => q W' H' cls dd (st0.trans e)
  | ok ps S1 =>
    rw [e1] at q
    simp only [Out.bind] at q
    intro W1 H1 vs e s1 r1
    obtain ⟨d1, g1, c1⟩ := e.kp p _ upd_same hg hc
    cases e2 : keysP ps with
    | none => rw [e2] at q; exact q.elim
    | some es =>
      rw [e2] at q
      simp only at q
      by_cases hl : es.length ≤ 15
      · rw [if_pos hl] at q
        obtain ⟨kvs, f1, f2⟩ := keysP_at r1 e2
        have st1 : Stp W H W1 (upd H1 p (.dK (mergeK [] kvs))) := (st0.trans e).out hp
        exact ⟨d1, kvs, f1, by rw [f2.length]; exact hl, k es kvs S1 W1 _ p hp st1 (s1.out g1 c1) upd_same g1 c1 (RepK.merge f2 rfl) q⟩
      · rw [if_neg hl] at q
        exact q.elim
theorem je_dis {keys : List (Option Expr)} {values : List Expr} {m : DP} (h : JP X Wx pos keys values m) (hall : keys.all (·.isSome) = true := by rfl) (hl : keys.length = values.length := by rfl) (h0 : keys ≠ [] := by exact List.cons_ne_nil _ _) (h15 : keys.length ≤ 15 := by decide) : JE X Wx (.Dict keys values pos) (mDis m) := by
  obtain ⟨trs, h1, h2⟩ := h.ex
  refine PE.weak (pe_disp h1 hall hl h0 h15) fun σ H Q ⟨env, S, W, hE, hS, q⟩ => disp_go (f := fun es S1 => .ok (.dct (mergeD [] es)) S1) h2 hE hS q fun es kvs S1 W1 H1 p hp st s1 hd hg hc r q => ?_
  exact q ⟨upd W1.G p (.dK (mergeK [] kvs)), W1.cs⟩ H1 (.ref p) ⟨st.le.trans ⟨ExtG.new hg, [], by simp⟩, fun a u e g nn => ⟨(st.kp a u e g nn).1, (upd_ne (ne_of_none e hp)).trans (st.kp a u e g nn).2.1, (st.kp a u e g nn).2.2⟩⟩ (s1.adopt hd hg hc) (.inr ⟨p, _, rfl, .inl upd_same, r.mono (ExtG.new hg)⟩)
theorem je_disC {keys : List (Option Expr)} {values : List Expr} {m : DP} (h : JP X Wx pos keys values m) (hall : keys.all (·.isSome) = true := by rfl) (hl : keys.length = values.length := by rfl) (h0 : keys ≠ [] := by exact List.cons_ne_nil _ _) (h15 : keys.length ≤ 15 := by decide) : JE X Wx (.Dict keys values pos) (mDisC m) := by
  obtain ⟨trs, h1, h2⟩ := h.ex
  refine PE.weak (pe_disp h1 hall hl h0 h15) fun σ H Q ⟨env, S, W, hE, hS, q⟩ => disp_go (f := fun es S1 => Out.ok (Dat.cell S1.length) (S1 ++ [some (Dat.dct (mergeD [] es))])) h2 hE hS q fun es kvs S1 W1 H1 p hp st s1 hd hg hc r q => ?_
  refine q ⟨W1.G, W1.cs ++ [p]⟩ H1 (.ref p) ⟨st.le.trans ⟨.refl, _, rfl⟩, fun a u e g nn => ⟨(st.kp a u e g nn).1, (st.kp a u e g nn).2.1, fun z => ?_⟩⟩ (s1.pushO hg hc hd ⟨_, rfl, r⟩) (.inl ⟨S1.length, p, rfl, ?_, rfl⟩)
  · rcases List.mem_append.mp z with z | z
    · exact (st.kp a u e g nn).2.2 z
    · exact ne_of_none e hp (by simpa using z)
  · show (W1.cs ++ [p])[S1.length]? = some p
    rw [s1.len, List.getElem?_append_right (Nat.le_refl _), Nat.sub_self]
    rfl
/-- {} that stays -/
def mDct0 : DE := fun _ S => .ok (.dct []) S
theorem je_dct0 : JE X Wx (.Dict [] [] pos) mDct0 :=
  PE.weak pe_dnewK fun σ H Q ⟨env, S, W, hE, hS, q⟩ p hp => post_new hS q hp fun G eg hg => ⟨p, [], rfl, .inl hg, rfl⟩
/-! ### insert -/
def fIns : Nat → List Dat → Sto → Out Dat := fun l ds S => match ds with
  | [.int i, y] => (match lstOf (.cell l) S with
    | some xs => if nc y = true ∧ xs.length < 100000 ∧ 0 ≤ i ∧ i < 2 ^ 63 then .ok .non (S.set l (some (.lst (xs.take i.toNat ++ [y] ++ xs.drop i.toNat)))) else .stk
    | none => .stk)
  | _ => .stk
theorem Reps.take {K : PySem.W.Frag} {G : Hp} : ∀ {ds : List Dat} {xs : List V} (i : Nat), Reps K G ds xs → Reps K G (ds.take i) (xs.take i)
  | [], _, i, h => by cases h; rw [List.take_nil, List.take_nil]; rfl
  | _ :: _, _, 0, _ => by rw [List.take_zero, List.take_zero]; rfl
  | _ :: _, _, i + 1, ⟨x, r, e, h1, h2⟩ => by subst e; exact ⟨x, _, rfl, h1, Reps.take i h2⟩
theorem Reps.drop {K : PySem.W.Frag} {G : Hp} : ∀ {ds : List Dat} {xs : List V} (i : Nat), Reps K G ds xs → Reps K G (ds.drop i) (xs.drop i)
  | [], _, i, h => by cases h; rw [List.drop_nil, List.drop_nil]; rfl
  | _ :: _, _, 0, h => by rw [List.drop_zero, List.drop_zero]; exact h
  | _ :: _, _, i + 1, ⟨x, r, e, h1, h2⟩ => by subst e; exact Reps.drop i h2
theorem lm_ins : LmJ X Wx (fun x vs H Q => ∃ (l : Addr) (xs : List V) (i : Int) (y : V), x = .ref l ∧ vs = [.int i, y] ∧ H l = some (.lst xs) ∧ xs.length < sizeLine ∧ 0 ≤ i ∧ i < 2 ^ 63 ∧
    Q .non (upd H l (.lst (xs.take i.toNat ++ [y] ++ xs.drop i.toNat)))) fIns := fun W S σ H l v vs ds Q hS rl r q => by
  unfold fIns at q
  split at q
  · rename_i i y
    obtain ⟨vi, vy, rfl, ri, ry⟩ := r.two
    cases ri.int
    cases h : lstOf (.cell l) S with
    | none => rw [h] at q; exact q.elim
    | some xs =>
      rw [h] at q
      simp only at q
      by_cases hn : nc y = true ∧ xs.length < 100000 ∧ 0 ≤ i ∧ i < 2 ^ 63
      · rw [if_pos hn] at q
        obtain ⟨a, us, h1, h2, h3, h4, h5⟩ := cellM_at hS rl h
        obtain ⟨s1, e1⟩ := hS.setC h2 h3 (d := .lst (xs.take i.toNat ++ [y] ++ xs.drop i.toNat)) (u := .lst (us.take i.toNat ++ [vy] ++ us.drop i.toNat)) ⟨_, rfl, ((h5.take i.toNat).append (show Reps X.K W.G [y] [vy] from ⟨vy, [], rfl, ry.pure hn.1, rfl⟩)).append (h5.drop i.toNat)⟩
        exact ⟨a, us, i, vy, h1, rfl, h4, by rw [h5.length]; exact Nat.lt_trans hn.2.1 (by decide), hn.2.2.1, hn.2.2.2, q W _ _ e1 s1 (.inr rfl)⟩
      · rw [if_neg hn] at q
        exact q.elim
  · exact q.elim
theorem je_ins (ho : JE X Wx o mo) (ha : JA X Wx (e :: es) ma)
    (hbase : attributeBase o "insert" X.env (eval o X.env) = eval o X.env := by rfl)
    (hfew : ((backTo cpos (starEach (e :: es) X.env)).all (fun x => !x.1) && (backToKw cpos (keywordEach [] X.env)).all (fun x => x.1.isSome)
      && decide ((e :: es).length + ([] : List Keyword).length + (if ([] : List Keyword).isEmpty then 0 else 1) < 30)) = true := by rfl)
    (hline : (apos.endLine == cpos.line) = true := by rfl) (hs : starEach (e :: es) X.env = (false, eval e X.env) :: starEach es X.env := by rfl) (hplain : (backTo cpos (starEach es X.env)).any (·.1) = false := by rfl) : JE X Wx (.Call (.Attribute o "insert" apos) (e :: es) [] cpos) (mBL fIns mo ma) :=
  je_bmL PySem.F.slot_list_insert PySem.F.type_list_insert mt_insert lm_ins ho ha hbase hfew hline hs hplain
/-! ### split -/
def strsD (ys : List Str) : Dat := .lst (ys.map .str)
theorem post_strs {W : Wd} {S : Sto} {σ : St} {H : Hp} {Q : VK} {ys : List Str} (hS : SimS X.K W S H) (q : PostE X.K W H Wx σ (.ok (strsD ys) S) Q) : rNewStrs ys H Q := fun p hp => post_new hS q hp fun G eg hg => ⟨p, _, rfl, hg, Reps.strs⟩
def fSplit : Str → List Dat → Sto → Out Dat := fun z ds S => match ds with
  | [.str y] => if (y.length == 0) = false ∧ z.length ≤ 100000 then .ok (strsD (PySem.Txt.split z y)) S else .stk
  | _ => .stk
theorem sm_split : SmJ X Wx (fun x xs H Q => ∃ a b, x = .str a ∧ xs = [.str b] ∧ (b.length == 0) = false ∧ a.length + 2 ≤ sizeLine ∧ rNewStrs (PySem.Txt.split a b) H Q) fSplit := fun W S σ H z vs ds Q hS r q => by
  unfold fSplit at q
  split at q
  · rename_i y
    obtain ⟨vy, rfl, ry⟩ := r.one
    cases ry.str
    by_cases h : (y.length == 0) = false ∧ z.length ≤ 100000
    · rw [if_pos h] at q
      exact ⟨z, y, rfl, rfl, h.1, Nat.le_trans (Nat.add_le_add_right h.2 2) (by decide), post_strs hS q⟩
    · rw [if_neg h] at q
      exact q.elim
  · exact q.elim
theorem je_split (ho : JE X Wx o mo) (ha : JA X Wx (e :: es) ma)
    (hbase : attributeBase o "split" X.env (eval o X.env) = eval o X.env := by rfl)
    (hfew : ((backTo cpos (starEach (e :: es) X.env)).all (fun x => !x.1) && (backToKw cpos (keywordEach [] X.env)).all (fun x => x.1.isSome)
      && decide ((e :: es).length + ([] : List Keyword).length + (if ([] : List Keyword).isEmpty then 0 else 1) < 30)) = true := by rfl)
    (hline : (apos.endLine == cpos.line) = true := by rfl) (hs : starEach (e :: es) X.env = (false, eval e X.env) :: starEach es X.env := by rfl) (hplain : (backTo cpos (starEach es X.env)).any (·.1) = false := by rfl) : JE X Wx (.Call (.Attribute o "split" apos) (e :: es) [] cpos) (mBS fSplit mo ma) :=
  je_bmS PySem.F.slot_str_split PySem.F.type_str_split mt_split sm_split ho ha hbase hfew hline hs hplain
def fWords : Str → List Dat → Sto → Out Dat := fun z ds S => match ds with
  | [] => if z.length ≤ 100000 then .ok (strsD (PySem.Txt.words z)) S else .stk
  | _ => .stk
theorem sm_words : SmJ X Wx (fun x xs H Q => ∃ a, x = .str a ∧ xs = [] ∧ a.length + 2 ≤ sizeLine ∧ rNewStrs (PySem.Txt.words a) H Q) fWords := fun W S σ H z vs ds Q hS r q => by
  unfold fWords at q
  split at q
  · cases r
    by_cases h : z.length ≤ 100000
    · rw [if_pos h] at q
      exact ⟨z, rfl, rfl, Nat.le_trans (Nat.add_le_add_right h 2) (by decide), post_strs hS q⟩
    · rw [if_neg h] at q
      exact q.elim
  · exact q.elim
theorem je_words (ho : JE X Wx o mo) (hbase : attributeBase o "split" X.env (eval o X.env) = eval o X.env := by rfl) (hline : (apos.endLine == cpos.line) = true := by rfl) : JE X Wx (.Call (.Attribute o "split" apos) [] [] cpos) (mBS fWords mo mNil) :=
  je_bmS0 PySem.F.slot_str_split PySem.F.type_str_split mt_words sm_words ho hbase hline
/-! ### len -/
theorem call_lenP : CallR X (.builtin "len") (fun xs H Q => (∃ p ys, xs = [.ref p] ∧ (SqL X.K H p ys ∨ SqT X.K H p ys) ∧ Q (.int ys.length) H) ∨ (∃ z : Str, xs = [.str z] ∧ z.length ≤ sizeLine ∧ Q (.int z.length) H)) := CallR.or call_len_seq call_len_str
/-! ### facts by names -/
section
variable {K : PySem.W.Frag} {h : Heap} {mg : Str → Option Value}
theorem Xa.glo_ok (X : K.In h) (G : h.Ns mainGlobals mg) {x : Str} (c : (Xa.fa (.glo x)).ok K = true) : mg x = some (.ref (He.ga K x)) := He.glo_ok X G c
theorem Xa.free_ok (X : K.In h) (G : h.Ns mainGlobals mg) {x : Str} (c : (Xa.fa (.free x)).ok K = true) : mg x = none := He.free_ok X G c
theorem Xa.cls_ok {x : Str} (c : (Xa.fa (.cls x)).ok K = true) : Cls K (He.ga K x) := He.cls_ok c
theorem Xa.noat_ok {x f : Str} (c : (Xa.fa (.noat x f)).ok K = true) : NoAttr K (He.ga K x) f := He.noat_ok c
theorem Xa.meth_ok {x m : Str} (c : (Xa.fa (.meth x m)).ok K = true) : Meth K (He.ga K x) m (He.ma K (He.ga K x) m) := He.meth_ok c
theorem Xa.mkr_ok {x : Str} (c : (Xa.fa (.mkr x)).ok K = true) : Mk K (He.ga K x) (He.ma K (He.ga K x) "__init__") := He.mkr_ok c
def oks (T : IsT) : List Str := T.filterMap fun e => match e.1.1 with
  | .o C => some C
  | _ => none
theorem oks_mem {C : Str} {e : (TyN × TyN) × Bool} (he : e.1.1 = .o C) : ∀ {T : IsT}, e ∈ T → C ∈ oks T
  | [], h => by cases h
  | d :: r, h => by
    unfold oks
    rcases List.mem_cons.mp h with h | h
    · subst h
      exact List.mem_filterMap.mpr ⟨e, List.mem_cons_self, by rw [he]⟩
    · obtain ⟨z, h1, h2⟩ := List.mem_filterMap.mp (oks_mem he h)
      exact List.mem_filterMap.mpr ⟨z, List.mem_cons_of_mem _ h1, h2⟩
theorem isF_of {xa b : List Xa} {fn : List He.DefD} {T : IsT} {L : List Str} (c : SaysM xa fn K) (hx : xa = b ++ (T.map .kit ++ L.map .ins)) (hl : (oks T).all (fun C => decide (C ∈ L)) = true) : IsF K T := by
  have c1 := (He.ba (show ((xa.all fun f => f.ok K) && fn.all fun d => d.ok K) = true from congrArg (fun z : He.AlD => z.1) c)).1
  have c2 := List.all_eq_true.mp c1
  refine ⟨fun e he => Xa.kit_ok (c2 (.kit e) ?_), fun e he C eC => Xa.ins_ok (c2 (.ins C) ?_)⟩
  · rw [hx]
    exact List.mem_append_right _ (List.mem_append_left _ (List.mem_map.mpr ⟨e, he, rfl⟩))
  · rw [hx]
    exact List.mem_append_right _ (List.mem_append_right _ (List.mem_map.mpr ⟨C, of_decide_eq_true (List.all_eq_true.mp hl C (oks_mem eC he)), rfl⟩))
end
section
variable {P : Program} {w : World} {K : PySem.W.Frag} {mg : Str → Option Value} {base : Heap} {qual C : Str} {params : Arguments} {body : List Stmt} {scope : Scope} {f : Addr} {fd : FuncData} {ps ks : List Str} {k n : Nat} {m : Fn}
theorem RepVs.nil {W : Wd} : RepVs K W [] [] := rfl
theorem cons_app {α : Type} {x : α} {r : List α} : x :: r = [x] ++ r := rfl
/-- a class made with all its keyword-only parameters written -/
theorem mkr_all {kws : List (Str × V)} (F : FunD K "__init__" qual params body scope [] kws f fd) (ok : FnOk P w K mg base (L2.CX P w) k f fd ps (spM K m)) (hf : f = He.ma K (He.ga K C) "__init__") (gm : mg C = some (.ref (He.ga K C))) (hm : Mk K (He.ga K C) (He.ma K (He.ga K C) "__init__")) (hk : kws ≠ [])
    (h : ∀ (D : Addr) (doc pm : Value) (an : Option Addr) (cdv ct : Value) (us mv ws : List Value), us.length = 1 → mv.length = 0 → ws.length = ks.length →
      KwChain D ([].zip mv) (bindArgs (PySem.W.fnOf "__init__" qual params body scope .none (.ref D) doc pm an cdv ct) ⟨us, ks.zip ws⟩) (ps.zip (us ++ ws))) :
    Mkr P w K mg base k C 0 ks (fun as S => m (as.take 1 ++ as.drop 1) S) := by
  subst hf
  obtain ⟨mv, hb⟩ := FunD.kbinds0 F 1 ks [] (fun us _ ws => us ++ ws) hk (fun _ h => (nomatch h)) (fun r1 _ r2 => r1.append r2) h
  exact ⟨gm, _, FnG.ofK (gD := fun as bs => as ++ bs) ok hb fun W as bs vs zs r1 r2 => r1.append r2, hm⟩
/-- .. with none of them written -/
theorem mkr_none {kws : List (Str × V)} {dds : List Dat} (F : FunD K "__init__" qual params body scope [] kws f fd) (ok : FnOk P w K mg base (L2.CX P w) k f fd ps (spM K m)) (hf : f = He.ma K (He.ga K C) "__init__") (gm : mg C = some (.ref (He.ga K C))) (hm : Mk K (He.ga K C) (He.ma K (He.ga K C) "__init__")) (hk : kws ≠ [])
    (rd : ∀ W, RepVs K W dds (kws.map (·.2)))
    (h : ∀ (D : Addr) (doc pm : Value) (an : Option Addr) (cdv ct : Value) (us mv ws : List Value), us.length = 1 → mv.length = kws.length → ws.length = 0 →
      KwChain D ((kws.map (·.1)).zip mv) (bindArgs (PySem.W.fnOf "__init__" qual params body scope .none (.ref D) doc pm an cdv ct) ⟨us, [].zip ws⟩) (ps.zip (us ++ mv))) :
    Mkr P w K mg base k C 0 [] (fun as S => m (as.take 1 ++ dds) S) := by
  subst hf
  obtain ⟨mv, hb⟩ := FunD.kbinds0 F 1 [] kws (fun us mv _ => us ++ mv) hk (fun _ h => h) (fun r1 r2 _ => r1.append r2) h
  exact ⟨gm, _, FnG.ofK (gD := fun as _ => as ++ dds) ok hb fun W as bs vs zs r1 r2 => r1.append (rd W), hm⟩
end
/-! ### is True -/
def mIsB (k : Bool) (m : DE) : DE := fun env S => (m env S).bind fun d S1 => match d with
  | .bl b => .ok (.bl (decide (b = k))) S1
  | _ => .stk
def mNotB (k : Bool) (m : DE) : DE := fun env S => (m env S).bind fun d S1 => match d with
  | .bl b => .ok (.bl (!decide (b = k))) S1
  | _ => .stk
end
end JL
/-! J11: equations of the denotations, for evaluation. -/
namespace JL
open PySem PySem.Spec L2
section
variable {env : Env} {S S' : Sto} {a b d : Dat} {ma mb mo mk mv : DE} {t u : DT} {ra rb : DA} {s r : DS} {i j k n : Nat} {g : DG} {mi : DI}
@[simp] theorem bind_ok {α β : Type} {x : α} {f : α → Sto → Out β} : (Out.ok x S).bind f = f x S := rfl
@[simp] theorem bind_rz {α β : Type} {x : Exn} {f : α → Sto → Out β} : (Out.rz x S : Out α).bind f = .rz x S := rfl
@[simp] theorem bind_stk {α β : Type} {f : α → Sto → Out β} : (Out.stk : Out α).bind f = .stk := rfl
@[simp] theorem bindN_ok {α β : Type} {x : α} {f : α → Sto → Out β} : (Out.ok x S).bindN f = f x S := rfl
@[simp] theorem mVar_s : mVar i env S = match env[i]? with
  | some (some d) => .ok d S
  | _ => .stk := rfl
@[simp] theorem mC_s : mC d env S = .ok d S := rfl
@[simp] theorem mBin_s {f : Dat → Dat → Sto → Out Dat} : mBin f ma mb env S = (ma env S).bind fun a S1 => (mb env S1).bind fun b S2 => f a b S2 := rfl
@[simp] theorem mNil_s : mNil env S = .ok [] S := rfl
@[simp] theorem mCons_s : mCons mo ra env S = (mo env S).bind fun d S1 => (ra env S1).bind fun ds S2 => .ok (d :: ds) S2 := rfl
@[simp] theorem mCall_s {m : Fn} : mCall m ra rb env S = (ra env S).bind fun ds S1 => (rb env S1).bind fun es S2 => m (ds ++ es) S2 := rfl
@[simp] theorem mB_s {f : List Dat → Sto → Out Dat} : mB f ra env S = (ra env S).bind fun ds S1 => f ds S1 := rfl
@[simp] theorem mTest_s : mTest mo env S = (mo env S).bind fun d S => match d with
  | .bl b => .ok b S
  | _ => .stk := rfl
@[simp] theorem mTru_s : mTru mo env S = (mo env S).bind fun d S1 => match tru d S1 with
  | some b => .ok b S1
  | none => .stk := rfl
@[simp] theorem dAnd_s : dAnd t u env S = (t env S).bind fun c S1 => if c = true then u env S1 else .ok false S1 := rfl
@[simp] theorem dOr_s : dOr t u env S = (t env S).bind fun c S1 => if c = true then .ok true S1 else u env S1 := rfl
@[simp] theorem dNot_s : dNot t env S = (t env S).bind fun c S1 => .ok (!c) S1 := rfl
@[simp] theorem mAnd_s : mAnd ma mb env S = (ma env S).bind fun c S1 => match c with
  | .bl true => mb env S1
  | .bl false => .ok (.bl false) S1
  | _ => .stk := rfl
@[simp] theorem mOr_s : mOr ma mb env S = (ma env S).bind fun c S1 => match c with
  | .bl true => .ok (.bl true) S1
  | .bl false => mb env S1
  | _ => .stk := rfl
@[simp] theorem mNot_s : mNot ma env S = (ma env S).bind fun c S1 => match c with
  | .bl b => .ok (.bl (!b)) S1
  | _ => .stk := rfl
@[simp] theorem mIf_s : mIf t ma mb env S = (t env S).bind fun c S1 => if c = true then ma env S1 else mb env S1 := rfl
@[simp] theorem mIsN_s : mIsN ma env S = (ma env S).bind fun d S1 => .ok (.bl (isNon d)) S1 := rfl
@[simp] theorem mNotN_s : mNotN ma env S = (ma env S).bind fun d S1 => .ok (.bl (!isNon d)) S1 := rfl
@[simp] theorem sSeq_s : sSeq s r env S = match s env S with
  | .nx env' S' => r env' S'
  | f => f := rfl
@[simp] theorem sSkip_s : sSkip env S = .nx env S := rfl
@[simp] theorem sRet_s : sRet mo env S = ofE env (mo env S) fun d S1 => .rt d S1 := rfl
@[simp] theorem sRetN_s : sRetN env S = .rt .non S := rfl
@[simp] theorem sDrop_s : sDrop mo env S = ofE env (mo env S) fun _ S1 => .nx env S1 := rfl
@[simp] theorem sIf_s : sIf t s r env S = ofT env (t env S) fun c S1 => if c = true then s env S1 else r env S1 := rfl
@[simp] theorem sSet_s : sSet i mo env S = ofE env (mo env S) fun d S1 => .nx (env.set i (some d)) S1 := rfl
@[simp] theorem sAsg_s : sAsg g mo env S = ofE env (mo env S) fun d S1 => match g d env with
  | some env' => .nx env' S1
  | none => .stk := rfl
@[simp] theorem sAsgH_s {h : DH} : sAsgH h mo env S = ofE env (mo env S) fun d S1 => match h d env S1 with
  | some r => .nx r.1 r.2
  | none => .stk := rfl
@[simp] theorem ofE_ok {f : Dat → Sto → Flow} : ofE env (.ok d S) f = f d S := rfl
@[simp] theorem ofE_rz {f : Dat → Sto → Flow} {x : Exn} : ofE env (.rz x S) f = .rz x env S := rfl
@[simp] theorem ofT_ok {f : Bool → Sto → Flow} {c : Bool} : ofT env (.ok c S) f = f c S := rfl
@[simp] theorem ofA_ok {f : List Dat → Sto → Flow} {ds : List Dat} : ofA env (.ok ds S) f = f ds S := rfl
@[simp] theorem sFor_s : sFor g mi s env S = ofA env (mi env S) fun ds S1 => forL g s ds env S1 := rfl
@[simp] theorem forL_nil : forL g s [] env S = .nx env S := rfl
@[simp] theorem sAug_s {f : Dat → Dat → Sto → Out Dat} : sAug i f mo env S = match env[i]? with
  | some (some d) => ofE env (mo env S) fun y S1 => ofE env (f d y S1) fun z S2 => .nx (env.set i (some z)) S2
  | _ => .stk := rfl
@[simp] theorem gN_s : gN i d env = some (env.set i (some d)) := rfl
@[simp] theorem gZ_s : gZ [] env = some env := rfl
@[simp] theorem gC_s {gr : DGs} {ds : List Dat} : gC g gr (d :: ds) env = (g d env).bind fun e1 => gr ds e1 := rfl
@[simp] theorem gT_s {gr : DGs} {ds : List Dat} : gT gr (.tup ds) env = gr ds env := rfl
@[simp] theorem gTL_s {gr : DGs} {ds : List Dat} : gTL gr (.lst ds) env = gr ds env := rfl
@[simp] theorem miE_s {f : Dat → Sto → Option (List Dat)} : miE f mo env S = (mo env S).bind fun d S1 => match f d S1 with
  | some ds => .ok ds S1
  | none => .stk := rfl
@[simp] theorem miA_s {f : List Dat → Option (List Dat)} : miA f ra env S = (ra env S).bind fun ds S1 => match f ds with
  | some xs => .ok xs S1
  | none => .stk := rfl
@[simp] theorem itP_lst {ds : List Dat} : itP (.lst ds) S = some ds := rfl
@[simp] theorem itP_tup {ds : List Dat} : itP (.tup ds) S = some ds := rfl
@[simp] theorem itP_dct {es : List (Key × Dat)} : itP (.dct es) S = some (es.map fun kv => kD kv.1) := rfl
@[simp] theorem itP_str {z : Str} : itP (.str z) S = some (chars z) := rfl
@[simp] theorem mLst_s : mLst ra env S = (ra env S).bind fun ds S1 => if ds.all nc = true then .ok (.lst ds) S1 else .stk := rfl
@[simp] theorem mTup_s : mTup ra env S = (ra env S).bind fun ds S1 => if ds.all nc = true then .ok (.tup ds) S1 else .stk := rfl
@[simp] theorem mCel_s : mCel ra env S = (ra env S).bind fun ds S1 => if ds.all nc = true then .ok (.cell S1.length) (S1 ++ [some (.lst ds)]) else .stk := rfl
@[simp] theorem mCelD_s : mCelD env S = .ok (.cell S.length) (S ++ [some (.dct [])]) := rfl
@[simp] theorem mLstV_s : mLstV ra env S = (ra env S).bind fun ds S1 => if ds.all nc = true ∧ ds.length ≤ 100000 then .ok (.lst ds) S1 else .stk := rfl
@[simp] theorem mStar_s : mStar mo ra env S = (mo env S).bind fun d S1 => match seqOf d S1 with
  | some xs => (ra env S1).bind fun ds S2 => .ok (xs ++ ds) S2
  | none => .stk := rfl
@[simp] theorem nc_lst {ds : List Dat} : nc (.lst ds) = true := rfl
@[simp] theorem nc_tup {ds : List Dat} : nc (.tup ds) = true := rfl
@[simp] theorem nc_dct {ds : List (Key × Dat)} : nc (.dct ds) = true := rfl
@[simp] theorem nc_int {i : Int} : nc (.int i) = true := rfl
@[simp] theorem nc_str {i : Str} : nc (.str i) = true := rfl
@[simp] theorem nc_bl {i : Bool} : nc (.bl i) = true := rfl
@[simp] theorem nc_non : nc .non = true := rfl
@[simp] theorem nc_ins {C : Str} {fs : List (Str × Dat)} : nc (.ins C fs) = true := rfl
@[simp] theorem seqOf_lst {ds : List Dat} : seqOf (.lst ds) S = some ds := rfl
@[simp] theorem seqOf_tup {ds : List Dat} : seqOf (.tup ds) S = some ds := rfl
@[simp] theorem seqOf_rol {ds : List Dat} : seqOf (.rol ds) S = some ds := rfl
@[simp] theorem seqOf_str {x : Str} : seqOf (.str x) S = none := rfl
@[simp] theorem lstOf_lst {ds : List Dat} : lstOf (.lst ds) S = some ds := rfl
@[simp] theorem dctOf_dct {ds : List (Key × Dat)} : dctOf (.dct ds) S = some ds := rfl
theorem lstOf_cell {l : Nat} {ds : List Dat} (h : S[l]? = some (some (.lst ds))) : lstOf (.cell l) S = some ds := by unfold lstOf; simp only [h]
theorem seqOf_cell {l : Nat} {ds : List Dat} (h : S[l]? = some (some (.lst ds))) : seqOf (.cell l) S = some ds := lstOf_cell h
theorem dctOf_cell {l : Nat} {ds : List (Key × Dat)} (h : S[l]? = some (some (.dct ds))) : dctOf (.cell l) S = some ds := by unfold dctOf; simp only [h]
@[simp] theorem keyOf_str {x : Str} : keyOf (.str x) = some (.inr x) := rfl
@[simp] theorem keyOf_int {x : Int} : keyOf (.int x) = some (.inl x) := rfl
@[simp] theorem tru_bl {c : Bool} : tru (.bl c) S = some c := rfl
@[simp] theorem tru_non : tru .non S = some false := rfl
@[simp] theorem tru_int {c : Int} : tru (.int c) S = some (c != 0) := rfl
@[simp] theorem tru_lst {ds : List Dat} : tru (.lst ds) S = some (!ds.isEmpty) := rfl
@[simp] theorem tru_tup {ds : List Dat} : tru (.tup ds) S = some (!ds.isEmpty) := rfl
theorem tru_cell {l : Nat} {ds : List Dat} (h : S[l]? = some (some (.lst ds))) : tru (.cell l) S = some (!ds.isEmpty) := by
  show (seqOf (.cell l) S).map _ = _
  rw [seqOf_cell h]
  rfl
@[simp] theorem isNon_non : isNon .non = true := rfl
@[simp] theorem isNon_int {i : Int} : isNon (.int i) = false := rfl
@[simp] theorem isNon_str {i : Str} : isNon (.str i) = false := rfl
@[simp] theorem isNon_tup {ds : List Dat} : isNon (.tup ds) = false := rfl
@[simp] theorem isNon_lst {ds : List Dat} : isNon (.lst ds) = false := rfl
@[simp] theorem dI2_int {C : Int → Int → Bool} {f : Int → Int → Dat} {x y : Int} : dI2 C f (.int x) (.int y) S = if C x y = true then .ok (f x y) S else .stk := rfl
@[simp] theorem dAddP_int {x y : Int} : dAddP (.int x) (.int y) S = .ok (.int (x + y)) S := rfl
@[simp] theorem dAddP_str {x y : Str} : dAddP (.str x) (.str y) S = if x.length + y.length ≤ 100000 then .ok (.str (x ++ y)) S else .stk := rfl
@[simp] theorem dEqP_int {x y : Int} : dEqP (.int x) (.int y) S = .ok (.bl (decide (x = y))) S := rfl
@[simp] theorem dEqP_str {x y : Str} : dEqP (.str x) (.str y) S = .ok (.bl (decide (x = y))) S := rfl
@[simp] theorem dEqP_is {x : Int} {y : Str} : dEqP (.int x) (.str y) S = .ok (.bl false) S := rfl
@[simp] theorem dEqP_si {x : Int} {y : Str} : dEqP (.str y) (.int x) S = .ok (.bl false) S := rfl
@[simp] theorem dEqP_ns {y : Str} : dEqP .non (.str y) S = .ok (.bl false) S := rfl
@[simp] theorem dEqP_ni {y : Int} : dEqP .non (.int y) S = .ok (.bl false) S := rfl
@[simp] theorem dEqP_nn : dEqP .non .non S = .ok (.bl true) S := rfl
@[simp] theorem dNeP_int {x y : Int} : dNeP (.int x) (.int y) S = .ok (.bl (!decide (x = y))) S := rfl
@[simp] theorem dNeP_str {x y : Str} : dNeP (.str x) (.str y) S = .ok (.bl (!decide (x = y))) S := rfl
@[simp] theorem dNeP_is {x : Int} {y : Str} : dNeP (.int x) (.str y) S = .ok (.bl true) S := rfl
@[simp] theorem dNeP_si {x : Int} {y : Str} : dNeP (.str y) (.int x) S = .ok (.bl true) S := rfl
@[simp] theorem dNeP_nn : dNeP .non .non S = .ok (.bl false) S := rfl
@[simp] theorem dNeP_ni {y : Int} : dNeP .non (.int y) S = .ok (.bl true) S := rfl
@[simp] theorem dNeP_in {y : Int} : dNeP (.int y) .non S = .ok (.bl true) S := rfl
@[simp] theorem dNeP_ns {y : Str} : dNeP .non (.str y) S = .ok (.bl true) S := rfl
@[simp] theorem dNeP_sn {y : Str} : dNeP (.str y) .non S = .ok (.bl true) S := rfl
@[simp] theorem mLc_s {vs : List Nat} : mLc mi g t mo vs env S = (mi env S).bind fun ds S1 => if ds.length ≤ 100000 then (lcL g t mo (wipeE env vs) ds S1).bind fun ys S2 => .ok (.lst ys) S2 else .stk := rfl
@[simp] theorem mDc_s {vs : List Nat} : mDc mi g t mk mv vs env S = (mi env S).bind fun ds S1 => if ds.length ≤ 100000 then (dcL g t mk mv (wipeE env vs) ds [] S1).bind fun ys S2 => .ok (.dct ys) S2 else .stk := rfl
@[simp] theorem wipeE_nil : wipeE env [] = env := rfl
@[simp] theorem wipeE_cons {v : Nat} {vs : List Nat} : wipeE env (v :: vs) = (wipeE env vs).set v none := rfl
@[simp] theorem dL1_s {α : Type} {f : List Dat → Option α} {h : α → Option Dat} : dL1 f h [d] S = match (lstOf d S).bind f with
    | some x => (match h x with
      | some y => .ok y S
      | none => .stk)
    | none => .stk := rfl
@[simp] theorem dLen_s : dLen [d] S = match seqOf d S with
    | some xs => .ok (.int xs.length) S
    | none => (match d with
      | .str z => if z.length ≤ sizeLine then .ok (.int z.length) S else .stk
      | _ => .stk) := rfl
@[simp] theorem dInt_int {x : Int} : dInt [.int x] S = .ok (.int x) S := rfl
@[simp] theorem dInt_bl {x : Bool} : dInt [.bl x] S = .ok (.int (if x then 1 else 0)) S := rfl
@[simp] theorem dIx_s {x : Int} : dIx d (.int x) S = match seqOf d S with
    | some ds => (match atI ds x with
      | some d => .ok d S
      | none => .stk)
    | none => .stk := rfl
theorem dGet_s : dGet a b S = match dctOf a S, keyOf b with
  | some es, some k => (match dLook es k with
    | some d => .ok d S
    | none => .stk)
  | _, _ => .stk := rfl
section
variable {ds : List Dat} {e1 e2 : Env} {S2 : Sto}
theorem forL_nx (hg : g d env = some e1) (hb : s e1 S = .nx e2 S2) : forL g s (d :: ds) env S = forL g s ds e2 S2 := by
  show (match g d env with
    | none => Flow.stk
    | some e1 => match s e1 S with
      | .nx e2 S2 => forL g s ds e2 S2
      | .ct e2 S2 => forL g s ds e2 S2
      | .bk e2 S2 => .nx e2 S2
      | .rt d S2 => .rt d S2
      | .rz ex e2 S2 => .rz ex e2 S2
      | .stk => .stk) = _
  rw [hg]
  simp only [hb]
theorem forL_rt {r : Dat} (hg : g d env = some e1) (hb : s e1 S = .rt r S2) : forL g s (d :: ds) env S = .rt r S2 := by
  show (match g d env with
    | none => Flow.stk
    | some e1 => match s e1 S with
      | .nx e2 S2 => forL g s ds e2 S2
      | .ct e2 S2 => forL g s ds e2 S2
      | .bk e2 S2 => .nx e2 S2
      | .rt d S2 => .rt d S2
      | .rz ex e2 S2 => .rz ex e2 S2
      | .stk => .stk) = _
  rw [hg]
  simp only [hb]
end
/-- a comprehension that maps -/
theorem lcL_map {h : Dat → Dat} {ds : List Dat} (hg : ∀ d ∈ ds, ∃ e, g d env = some e ∧ mo e S = .ok (h d) S ∧ nc (h d) = true) : lcL g tYesM mo env ds S = .ok (ds.map h) S := by
  induction ds with
  | nil => rfl
  | cons d ds ih =>
    obtain ⟨e, h1, h2, h3⟩ := hg d List.mem_cons_self
    have ih := ih fun x hx => hg x (List.mem_cons_of_mem _ hx)
    show (match g d env with
      | none => Out.stk
      | some e1 => (tYesM e1 S).bindN fun c S1 => if c = true then (mo e1 S1).bindN fun y S2 => if nc y = true then (lcL g tYesM mo env ds S2).bind fun ys S3 => .ok (y :: ys) S3 else .stk else lcL g tYesM mo env ds S1) = _
    rw [h1]
    simp only
    show (if true = true then (mo e S).bindN fun y S2 => if nc y = true then (lcL g tYesM mo env ds S2).bind fun ys S3 => .ok (y :: ys) S3 else .stk else lcL g tYesM mo env ds S) = _
    rw [if_pos rfl, h2]
    show (if nc (h d) = true then (lcL g tYesM mo env ds S).bind fun ys S3 => .ok (h d :: ys) S3 else .stk) = _
    rw [if_pos h3, ih]
    rfl
/-- .. that filters and maps -/
theorem lcL_filter {h : Dat → Dat} {c : Dat → Bool} {ds : List Dat} (hg : ∀ d ∈ ds, ∃ e, g d env = some e ∧ t e S = .ok (c d) S ∧ (c d = true → mo e S = .ok (h d) S ∧ nc (h d) = true)) : lcL g t mo env ds S = .ok ((ds.filter c).map h) S := by
  induction ds with
  | nil => rfl
  | cons d ds ih =>
    obtain ⟨e, h1, h2, h3⟩ := hg d List.mem_cons_self
    have ih := ih fun x hx => hg x (List.mem_cons_of_mem _ hx)
    show (match g d env with
      | none => Out.stk
      | some e1 => (t e1 S).bindN fun c S1 => if c = true then (mo e1 S1).bindN fun y S2 => if nc y = true then (lcL g t mo env ds S2).bind fun ys S3 => .ok (y :: ys) S3 else .stk else lcL g t mo env ds S1) = _
    rw [h1]
    simp only
    rw [h2]
    show (if c d = true then (mo e S).bindN fun y S2 => if nc y = true then (lcL g t mo env ds S2).bind fun ys S3 => .ok (y :: ys) S3 else .stk else lcL g t mo env ds S) = _
    cases hc : c d with
    | true =>
      obtain ⟨h4, h5⟩ := h3 hc
      rw [if_pos rfl, h4]
      show (if nc (h d) = true then (lcL g t mo env ds S).bind fun ys S3 => .ok (h d :: ys) S3 else .stk) = _
      rw [if_pos h5, ih, List.filter_cons_of_pos hc]
      rfl
    | false =>
      rw [if_neg (by simp), ih, List.filter_cons_of_neg (by simp [hc])]
theorem dcL_map {hk : Dat → Key} {h : Dat → Dat} {ds : List Dat} {acc : List (Key × Dat)} (hg : ∀ d ∈ ds, ∃ e y, g d env = some e ∧ mk e S = .ok y S ∧ keyOf y = some (hk d) ∧ mv e S = .ok (h d) S ∧ nc (h d) = true) : dcL g tYesM mk mv env ds acc S = .ok (mergeD acc (ds.map fun d => (hk d, h d))) S := by
  induction ds generalizing acc with
  | nil => rfl
  | cons d ds ih =>
    obtain ⟨e, y, h1, h2, h3, h4, h5⟩ := hg d List.mem_cons_self
    have ih := ih (acc := dPutK acc (hk d) (h d)) fun x hx => hg x (List.mem_cons_of_mem _ hx)
    show (match g d env with
      | none => Out.stk
      | some e1 => (tYesM e1 S).bindN fun c S1 => if c = true then (mk e1 S1).bindN fun y S2 => (mv e1 S2).bindN fun z S3 => match keyOf y with
          | some k => if nc z = true then dcL g tYesM mk mv env ds (dPutK acc k z) S3 else .stk
          | none => .stk
        else dcL g tYesM mk mv env ds acc S1) = _
    rw [h1]
    simp only
    show (if true = true then (mk e S).bindN fun y S2 => (mv e S2).bindN fun z S3 => match keyOf y with
          | some k => if nc z = true then dcL g tYesM mk mv env ds (dPutK acc k z) S3 else .stk
          | none => .stk
        else dcL g tYesM mk mv env ds acc S) = _
    rw [if_pos rfl, h2]
    show ((mv e S).bindN fun z S3 => match keyOf y with
          | some k => if nc z = true then dcL g tYesM mk mv env ds (dPutK acc k z) S3 else .stk
          | none => .stk) = _
    rw [h4]
    show (match keyOf y with
          | some k => if nc (h d) = true then dcL g tYesM mk mv env ds (dPutK acc k (h d)) S else .stk
          | none => .stk) = _
    rw [h3]
    simp only
    rw [if_pos h5, ih]
    rfl
theorem mergeD_new {f : Key → Dat} : ∀ {ks : List Key} {acc : List (Key × Dat)}, ks.Nodup → (∀ k ∈ ks, ∀ p ∈ acc, p.1 ≠ k) → mergeD acc (ks.map fun k => (k, f k)) = acc ++ ks.map fun k => (k, f k)
  | [], acc, _, _ => by simp [mergeD]
  | k :: ks, acc, h, h2 => by
    obtain ⟨h3, h4⟩ := List.nodup_cons.mp h
    have e : dPutK acc k (f k) = acc ++ [(k, f k)] := by
      unfold dPutK
      rw [if_neg]
      intro z
      obtain ⟨p, hp, hk⟩ := List.any_eq_true.mp z
      exact h2 k List.mem_cons_self p hp (of_decide_eq_true hk)
    show mergeD (dPutK acc k (f k)) (ks.map fun k => (k, f k)) = _
    rw [e, mergeD_new h4 fun k' hk p hp => ?_]
    · simp
    · rcases List.mem_append.mp hp with hp | hp
      · exact h2 k' (List.mem_cons_of_mem _ hk) p hp
      · have hp : p = (k, f k) := by simpa using hp
        subst hp
        intro z
        exact h3 (by rw [show k = k' from z]; exact hk)
theorem dLook_map {f : Str → Dat} {x : Str} : ∀ {ks : List Str}, x ∈ ks → dLook (ks.map fun k => (Sum.inr k, f k)) (.inr x) = some (f x)
  | k :: ks, h => by
    unfold dLook
    by_cases e : k = x
    · subst e
      rw [List.map_cons, List.find?_cons_of_pos (by simp)]
      rfl
    · rw [List.map_cons, List.find?_cons_of_neg (by simpa using e)]
      rcases List.mem_cons.mp h with h | h
      · exact absurd h.symm e
      · exact dLook_map h
@[simp] theorem blsOf_map {α : Type} {f : α → Bool} {l : List α} : blsOf (l.map fun x => .bl (f x)) = some (l.map f) := by
  induction l with
  | nil => rfl
  | cons a l ih => rw [List.map_cons, List.map_cons]; unfold blsOf; rw [ih]; rfl
@[simp] theorem intsOf_map {α : Type} {f : α → Int} {l : List α} : intsOf (l.map fun x => .int (f x)) = some (l.map f) := by
  induction l with
  | nil => rfl
  | cons a l ih => rw [List.map_cons, List.map_cons]; unfold intsOf; rw [ih]; rfl
@[simp] theorem strsOf_map {α : Type} {f : α → Str} {l : List α} : strsOf (l.map fun x => .str (f x)) = some (l.map f) := by
  induction l with
  | nil => rfl
  | cons a l ih => rw [List.map_cons, List.map_cons]; unfold strsOf; rw [ih]; rfl
@[simp] theorem cell_last {x : Option Dat} : (S ++ [x])[S.length]? = some x := by simp
@[simp] theorem set_last {x y : Option Dat} : (S ++ [x]).set S.length y = S ++ [y] := by simp
@[simp] theorem take_last {x : Option Dat} : (S ++ [x]).take S.length = S := by simp
@[simp] theorem lstOf_last {ds : List Dat} : lstOf (.cell S.length) (S ++ [some (.lst ds)]) = some ds := lstOf_cell (by simp)
@[simp] theorem seqOf_last {ds : List Dat} : seqOf (.cell S.length) (S ++ [some (.lst ds)]) = some ds := seqOf_cell (by simp)
@[simp] theorem tru_last {ds : List Dat} : tru (.cell S.length) (S ++ [some (.lst ds)]) = some (!ds.isEmpty) := tru_cell (by simp)
@[simp] theorem dctOf_last {ds : List (Key × Dat)} : dctOf (.cell S.length) (S ++ [some (.dct ds)]) = some ds := dctOf_cell (by simp)
@[simp] theorem mBL_s {f : Nat → List Dat → Sto → Out Dat} : mBL f mo ra env S = (mo env S).bind fun d S1 => match d with
  | .cell l => if (lstOf (.cell l) S1).isSome = true then (ra env S1).bind fun ds S2 => f l ds S2 else .stk
  | _ => .stk := rfl
@[simp] theorem mBS_s {f : Str → List Dat → Sto → Out Dat} : mBS f mo ra env S = (mo env S).bind fun d S1 => match d with
  | .str z => (ra env S1).bind fun ds S2 => f z ds S2
  | _ => .stk := rfl
@[simp] theorem fApp_s {l : Nat} : fApp l [d] S = match lstOf (.cell l) S with
    | some xs => if nc d = true ∧ xs.length < 100000 then .ok .non (S.set l (some (.lst (xs ++ [d])))) else .stk
    | none => .stk := rfl
theorem frz_last {d : Dat} (h : env[i]? = some (some (.cell S.length))) : sFrz i r env (S ++ [some d]) = r (env.map fun o => o.map (unCell S.length d)) (S ++ [none]) := by
  unfold sFrz
  simp only [h, cell_last, set_last]
@[simp] theorem unCell_same {l : Nat} : unCell l d (.cell l) = d := if_pos rfl
@[simp] theorem mMeth_s {C x : Str} {m : Fn} : mMeth C x m mo ra rb env S = (mo env S).bind fun d S1 => match insOf C d S1 with
  | some gs => (match gs.lookup x with
    | none => (ra env S1).bind fun ds S2 => (rb env S2).bind fun es S3 => m (d :: (ds ++ es)) S3
    | some _ => .stk)
  | none => .stk := rfl
@[simp] theorem mFld_s {C f : Str} : mFld C f mo env S = (mo env S).bind fun d S1 => match insOf C d S1 with
  | some gs => (match gs.lookup f with
    | some y => .ok y S1
    | none => .stk)
  | none => .stk := rfl
@[simp] theorem insOf_ins {C : Str} {gs : List (Str × Dat)} : insOf C (.ins C gs) S = some gs := if_pos rfl
@[simp] theorem dInP_s {neg : Bool} : dInP neg a b S = match inP a b S with
  | some r => .ok (.bl (if neg then !r else r)) S
  | none => .stk := rfl
theorem inP_strs {x : Str} {l : List Str} (h : seqOf b S = some (l.map .str)) : inP (.str x) b S = some (decide (x ∈ l)) := by
  unfold inP
  rw [h]
  have h1 : (l.map Dat.str).all flatD = true := by
    rw [List.all_eq_true]
    intro d hd
    obtain ⟨y, _, rfl⟩ := List.mem_map.mp hd
    rfl
  have h2 : inD (.str x) (l.map Dat.str) = decide (x ∈ l) := by
    unfold inD
    rw [List.any_map]
    by_cases hx : x ∈ l
    · rw [decide_eq_true hx, List.any_eq_true]
      exact ⟨x, hx, by show (x == x) = true; simp⟩
    · rw [decide_eq_false hx]
      rw [List.any_eq_false]
      intro y hy
      show ¬ (y == x) = true
      intro z
      have z := eq_of_beq z
      exact hx (z ▸ hy)
  simp only [h1, Bool.and_true]
  show (if true = true then some (inD (.str x) (l.map Dat.str)) else none) = _
  rw [if_pos rfl, h2]
theorem dPutK_len {es : List (Key × Dat)} {k : Key} : (dPutK es k d).length ≤ es.length + 1 := by
  unfold dPutK
  split
  · rw [List.length_map]; exact Nat.le_succ _
  · rw [List.length_append]; exact Nat.le_refl _
theorem dPut_lastK {es : List (Key × Dat)} {x : Str} (hn : nc d = true) (hl : es.length < 100000) : dPut (.cell S.length) (.str x) d (S ++ [some (.dct es)]) = some (S ++ [some (.dct (dPutK es (.inr x) d))]) := by
  unfold dPut
  simp only [cell_last, keyOf_str, set_last]
  exact if_pos ⟨hn, hl⟩
@[simp] theorem hSub_s {mi2 : DE} : hSub mo mi2 d env S = (okOf (mo env S)).bind fun o => (okOf (mi2 env o.2)).bind fun i => (dPut o.1 i.1 d i.2).map fun S' => (env, S') := rfl
@[simp] theorem okOf_ok {α : Type} {x : α} : okOf (Out.ok x S) = some (x, S) := rfl
@[simp] theorem hT_s {h : DHs} {ds : List Dat} : hT h (.tup ds) env S = h ds env S := rfl
@[simp] theorem hZ_s : hZ [] env S = some (env, S) := rfl
@[simp] theorem hC_s {h : DH} {r : DHs} {ds : List Dat} : hC h r (d :: ds) env S = (h d env S).bind fun e => r ds e.1 e.2 := rfl
@[simp] theorem sPar_s : sPar i j ra env S = match ra env S with
  | .ok [d1, d2] S1 => .nx ((env.set i (some d1)).set j (some d2)) S1
  | .ok _ _ => .stk
  | .rz ex S1 => .rz ex env S1
  | .stk => .stk := rfl
/-- a def's end -/
theorem mDef_rt {np N : Nat} {body : DS} {ds : List Dat} {d : Dat} {S1 : Sto} (hl : ds.length = np) (h : body (ds.map some ++ List.replicate (N - ds.length) none) S = .rt d S1) (hn : nc d = true) (hS : S1.take S.length = S) : mDef np N body ds S = .ok d S := by
  unfold mDef
  rw [if_pos hl]
  unfold mFn
  rw [h]
  cases d with
  | cell l => cases hn
  | _ => show Out.ok _ (S1.take S.length) = _; rw [hS]
end
end JL
namespace JK
open PySem PySem.Spec L2 JL
def top (i : Nat) : Stmt := PySem.Challenge.pw_letineditions_k70_least_number_of_editio.main.body.getD i (.Pass ⟨0, 0, 0, 0⟩)
def clsB (s : Stmt) : List Stmt := match s with
  | .ClassDef _ _ _ b _ _ _ _ _ _ _ => b
  | _ => []
def met (i j : Nat) : Stmt := (clsB (top i)).getD j (.Pass ⟨0, 0, 0, 0⟩)
def k_AHEAD : Dat := (.tup [(.str "drop"), (.str "ease"), (.str "preset"), (.str "widen"), (.str "recode"), (.str "swap"), (.str "reuse"), (.str "move")])
def k_BACK : Dat := (.tup [(.str "add"), (.str "need"), (.str "preset"), (.str "narrow"), (.str "recode"), (.str "swap"), (.str "reuse"), (.str "move")])
def k_CHANGES : Dat := (.tup [(.str "add"), (.str "offer"), (.str "drop"), (.str "retire"), (.str "need"), (.str "ease"), (.str "preset"), (.str "widen"), (.str "narrow"), (.str "recode"), (.str "swap"), (.str "reuse"), (.str "move")])
def k_EVER : Dat := (.str "ever")
def k_WAYS : Dat := (.tup [(.tup [(.tup [(.str "add")]), (.tup [(.str "offer"), (.str "need")]), (.tup [])]), (.tup [(.tup [(.str "offer")]), (.tup [(.str "add"), (.str "ease")]), (.tup [])]), (.tup [(.tup [(.str "drop")]), (.tup [(.str "ease"), (.str "retire")]), (.tup [])]), (.tup [(.tup [(.str "retire")]), (.tup [(.str "need"), (.str "drop")]), (.tup [])]), (.tup [(.tup [(.str "need")]), (.tup [(.str "retire"), (.str "add")]), (.tup [])]), (.tup [(.tup [(.str "ease")]), (.tup [(.str "drop"), (.str "offer")]), (.tup [])]), (.tup [(.tup [(.str "preset")]), (.tup [(.str "need"), (.str "ease")]), (.tup [])]), (.tup [(.tup [(.str "preset")]), (.tup [(.str "retire"), (.str "offer")]), (.tup [])]), (.tup [(.tup [(.str "preset")]), (.tup [(.str "retire"), (.str "add"), (.str "ease")]), (.tup [(.str "need"), (.str "offer")])]), (.tup [(.tup [(.str "preset")]), (.tup [(.str "need"), (.str "drop"), (.str "offer")]), (.tup [(.str "retire"), (.str "ease")])]), (.tup [(.tup [(.str "widen"), (.str "narrow")]), (.tup [(.str "recode")]), (.tup [])]), (.tup [(.tup [(.str "widen"), (.str "narrow"), (.str "recode")]), (.tup [(.str "swap")]), (.tup [])]), (.tup [(.tup [(.str "widen"), (.str "narrow"), (.str "recode"), (.str "swap")]), (.tup [(.str "drop"), (.str "add")]), (.tup [])]), (.tup [(.tup [(.str "widen"), (.str "narrow"), (.str "recode")]), (.tup [(.str "retire"), (.str "offer")]), (.tup [])]), (.tup [(.tup [(.str "swap")]), (.tup [(.str "retire"), (.str "offer")]), (.tup [(.str "preset")])]), (.tup [(.tup [(.str "widen"), (.str "narrow"), (.str "recode"), (.str "swap")]), (.tup [(.str "drop"), (.str "offer")]), (.tup [(.str "ease")])]), (.tup [(.tup [(.str "widen"), (.str "narrow"), (.str "recode"), (.str "swap")]), (.tup [(.str "retire"), (.str "add")]), (.tup [(.str "need")])]), (.tup [(.tup [(.str "reuse"), (.str "move")]), (.tup [(.str "drop"), (.str "add")]), (.tup [])]), (.tup [(.tup [(.str "reuse"), (.str "move")]), (.tup [(.str "drop"), (.str "offer")]), (.tup [])]), (.tup [(.tup [(.str "reuse"), (.str "move")]), (.tup [(.str "retire"), (.str "add")]), (.tup [])]), (.tup [(.tup [(.str "reuse"), (.str "move")]), (.tup [(.str "retire"), (.str "offer")]), (.tup [])])])
def isT : IsT := [((.b "NoneType", .b "int"), false), ((.b "NoneType", .b "bool"), false), ((.b "NoneType", .b "str"), false), ((.b "bool", .b "int"), true), ((.b "bool", .b "bool"), true), ((.b "bool", .b "str"), false), ((.b "int", .b "int"), true), ((.b "int", .b "bool"), false), ((.b "int", .b "str"), false), ((.b "str", .b "int"), false), ((.b "str", .b "bool"), false), ((.b "str", .b "str"), true)]
structure GF (K : PySem.W.Frag) (mg : Str → Option Value) : Prop where
  c_AHEAD : Cst K mg "AHEAD" k_AHEAD
  c_BACK : Cst K mg "BACK" k_BACK
  c_CHANGES : Cst K mg "CHANGES" k_CHANGES
  c_EVER : Cst K mg "EVER" k_EVER
  c_WAYS : Cst K mg "WAYS" k_WAYS
  b_abs : mg "abs" = none
  b_all : mg "all" = none
  b_any : mg "any" = none
  b_bool : mg "bool" = none
  b_int : mg "int" = none
  b_isinstance : mg "isinstance" = none
  b_len : mg "len" = none
  b_list : mg "list" = none
  b_max : mg "max" = none
  b_min : mg "min" = none
  b_range : mg "range" = none
  b_sorted : mg "sorted" = none
  b_str : mg "str" = none
  b_sum : mg "sum" = none
  cl_Wish : Cls K (He.ga K "Wish")
  na_Wish_ahead : NoAttr K (He.ga K "Wish") "ahead"
  na_Wish_back : NoAttr K (He.ga K "Wish") "back"
  isf : IsF K isT
/-! is_integer -/
def N_is_integer : List Str := ["value"]
def P_is_integer : List Str := ["value"]
theorem sc_is_integer : FnScope N_is_integer P_is_integer (defScope (top 2)) := ⟨rfl, rfl, rfl, by decide +kernel, rfl, by decide +kernel, by decide +kernel⟩
def s_is_integer : DS := (sRet (mAnd (mB (dIsi isT) (mCons (mVar 0) (mCons (mC (.ty "int")) mNil))) (mNot (mB (dIsi isT) (mCons (mVar 0) (mCons (mC (.ty "bool")) mNil))))))
def m_is_integer : Fn := mDef 1 1 s_is_integer
theorem j_is_integer {P : Program} {w : World} {K : PySem.W.Frag} {mg : Str → Option Value} {base : Heap} (G : GF K mg)  (f : Addr) (cdv : Value) (A : Around) (outer : List PySem.Env) (s : Shared) (H : Hp) (E : XK) (c : Ctx (XC P w K mg base N_is_integer "is_integer" (defScope (top 2)) f cdv A outer s H E) (WE0 E) 0) :
    JSs (XC P w K mg base N_is_integer "is_integer" (defScope (top 2)) f cdv A outer s H E) (WE0 E) (defBody (top 2)) s_is_integer :=
  (js_one (js_ret (je_and (je_callB call_isi (cj_isi G.isf) G.b_isinstance rfl (jn_cons (je_var 0) (jn_cons (je_ty G.b_int rfl) jn_nil))) (je_one (je_not (je_callB call_isi (cj_isi G.isf) G.b_isinstance rfl (jn_cons (je_var 0) (jn_cons (je_ty G.b_bool rfl) jn_nil))))))))
/-! is_deeper -/
def N_is_deeper : List Str := ["one", "other"]
def P_is_deeper : List Str := ["one", "other"]
theorem sc_is_deeper : FnScope N_is_deeper P_is_deeper (defScope (top 13)) := ⟨rfl, rfl, rfl, by decide +kernel, rfl, by decide +kernel, by decide +kernel⟩
def s_is_deeper : DS := (sSeq (sIf (dOr (mTest (mBin dEqP (mVar 0) (mC k_EVER))) (mTest (mBin dEqP (mVar 1) (mC k_EVER)))) (sRet (mAnd (mBin dEqP (mVar 0) (mC k_EVER)) (mBin dNeP (mVar 1) (mC k_EVER)))) sSkip) (sRet (mBin dGt (mVar 0) (mVar 1))))
def m_is_deeper : Fn := mDef 2 2 s_is_deeper
theorem j_is_deeper {P : Program} {w : World} {K : PySem.W.Frag} {mg : Str → Option Value} {base : Heap} (G : GF K mg)  (f : Addr) (cdv : Value) (A : Around) (outer : List PySem.Env) (s : Shared) (H : Hp) (E : XK) (c : Ctx (XC P w K mg base N_is_deeper "is_deeper" (defScope (top 13)) f cdv A outer s H E) (WE0 E) 0) :
    JSs (XC P w K mg base N_is_deeper "is_deeper" (defScope (top 13)) f cdv A outer s H E) (WE0 E) (defBody (top 13)) s_is_deeper :=
  (js_cons (js_if (jt_bool (jw_or (jt_cmp (op_eqP c.hr) oj_eqP (je_var 0) (je_cst G.c_EVER)) (jw_or1 (jt_cmp (op_eqP c.hr) oj_eqP (je_var 1) (je_cst G.c_EVER))))) (js_one (js_ret (je_and (je_cmp (op_eqP c.hr) oj_eqP (je_var 0) (je_cst G.c_EVER)) (je_one (je_cmp (op_neP c.hr) oj_neP (je_var 1) (je_cst G.c_EVER)))))) js_nil) (js_one (js_ret (je_cmp op_gt oj_gt (je_var 0) (je_var 1)))))
/-! deeper -/
def N_deeper : List Str := ["one", "other"]
def P_deeper : List Str := ["one", "other"]
theorem sc_deeper : FnScope N_deeper P_deeper (defScope (top 14)) := ⟨rfl, rfl, rfl, by decide +kernel, rfl, by decide +kernel, by decide +kernel⟩
def s_deeper : DS := (sRet (mIf (mTru (mCall m_is_deeper (mCons (mVar 0) (mCons (mVar 1) mNil)) mNil)) (mVar 0) (mVar 1)))
def m_deeper : Fn := mDef 2 2 s_deeper
theorem j_deeper {P : Program} {w : World} {K : PySem.W.Frag} {mg : Str → Option Value} {base : Heap} (G : GF K mg) (F_is_deeper : Cal P w K mg base 1 "is_deeper" 2 [] m_is_deeper) (f : Addr) (cdv : Value) (A : Around) (outer : List PySem.Env) (s : Shared) (H : Hp) (E : XK) (c : Ctx (XC P w K mg base N_deeper "deeper" (defScope (top 14)) f cdv A outer s H E) (WE0 E) 1) :
    JSs (XC P w K mg base N_deeper "deeper" (defScope (top 14)) f cdv A outer s H E) (WE0 E) (defBody (top 14)) s_deeper :=
  (js_one (js_ret (je_if (jt_tru (je_call c F_is_deeper (by decide) (jn_cons (je_var 0) (jn_cons (je_var 1) jn_nil)))) (je_var 0) (je_var 1))))
/-! way_distance -/
def N_way_distance : List Str := ["depths", "change", "steps", "waits", "total", "wait", "step"]
def P_way_distance : List Str := ["depths", "change", "steps", "waits"]
theorem sc_way_distance : FnScope N_way_distance P_way_distance (defScope (top 16)) := ⟨rfl, rfl, rfl, by decide +kernel, rfl, by decide +kernel, by decide +kernel⟩
def b_way_distance_1 : DS := (sSeq (sIf (dOr (mTest (mBin dEqP (mBin dGet (mVar 0) (mVar 5)) (mC k_EVER))) (dAnd (mTest (mBin dEqP (mB dLen (mCons (mVar 3) mNil)) (mC (.int 2)))) (mTest (mBin dEqP (mBin dGet (mVar 0) (mVar 5)) (mC (.int 0)))))) (sRet (mC .non)) sSkip) (sAug 4 dAdd (mB dInt (mCons (mBin dGet (mVar 0) (mVar 5)) mNil))))
def s_way_distance : DS := (sSeq (sIf (mTru (mB dAny (mCons (mLc (miE itP (mVar 2)) (gN 6) tYesM (mBin dNeP (mBin dGet (mVar 0) (mVar 6)) (mC (.int 0))) [6]) mNil))) (sRet (mC .non)) sSkip) (sSeq (sSet 4 (mC (.int 0))) (sSeq (sFor (gN 5) (miE itP (mVar 3)) b_way_distance_1) (sRet (mBin dAddP (mCall m_deeper (mCons (mBin dGet (mVar 0) (mVar 1)) (mCons (mVar 4) mNil)) mNil) (mC (.int 1)))))))
def m_way_distance : Fn := mDef 4 7 s_way_distance
theorem j_way_distance {P : Program} {w : World} {K : PySem.W.Frag} {mg : Str → Option Value} {base : Heap} (G : GF K mg) (F_deeper : Cal P w K mg base 2 "deeper" 2 [] m_deeper) (f : Addr) (cdv : Value) (A : Around) (outer : List PySem.Env) (s : Shared) (H : Hp) (E : XK) (c : Ctx (XC P w K mg base N_way_distance "way_distance" (defScope (top 16)) f cdv A outer s H E) (WE0 E) 2) :
    JSs (XC P w K mg base N_way_distance "way_distance" (defScope (top 16)) f cdv A outer s H E) (WE0 E) (defBody (top 16)) s_way_distance :=
  (js_cons (js_if (jt_tru (je_callB (cr_any c.cm) cj_any G.b_any rfl (jn_cons (je_lc c (own := [("step", 6)]) (ji_any (je_var 2)) (by kernel_rfl) (fun _ _ _ _ _ c1 => (jg_name c1 6)) (fun _ _ _ _ _ c1 => jts_nil) (fun _ _ _ _ _ c1 => (je_cmp (op_neP c1.hr) oj_neP (je_dget c1 (je_var 0) (je_var 6)) je_int))) jn_nil))) (js_one (js_ret je_non)) js_nil) (js_cons (js_set c 4 je_int) (js_cons (js_for c (ji_any (je_var 3)) (jg_name c 5) (js_cons (js_if (jt_bool (jw_or (jt_cmp (op_eqP c.hr) oj_eqP (je_dget c (je_var 0) (je_var 5)) (je_cst G.c_EVER)) (jw_or1 (jt_bool (jw_and (jt_cmp (op_eqP c.hr) oj_eqP (je_callB call_lenP cj_len G.b_len rfl (jn_cons (je_var 3) jn_nil)) je_int) (jw_and1 (jt_cmp (op_eqP c.hr) oj_eqP (je_dget c (je_var 0) (je_var 5)) je_int))))))) (js_one (js_ret je_non)) js_nil) (js_one (js_aug c 4 ip_addI oj_ipAdd (je_callTy call_int1 cj_int G.b_int rfl (jn_cons (je_dget c (je_var 0) (je_var 5)) jn_nil)))))) (js_one (js_ret (je_addP (je_call c F_deeper (by decide) (jn_cons (je_dget c (je_var 0) (je_var 1)) (jn_cons (je_var 4) jn_nil))) je_int))))))
/-! ways -/
def N_ways : List Str := ["depths", "change", "found", "names", "steps", "waits", "distance"]
def P_ways : List Str := ["depths", "change"]
theorem sc_ways : FnScope N_ways P_ways (defScope (top 17)) := ⟨rfl, rfl, rfl, by decide +kernel, rfl, by decide +kernel, by decide +kernel⟩
def b_ways_1 : DS := (sSeq (sSet 6 (mIf (mTest (mBin (dInP false) (mVar 1) (mVar 3))) (mCall m_way_distance (mCons (mVar 0) (mCons (mVar 1) (mCons (mVar 4) (mCons (mVar 5) mNil)))) mNil) (mC .non))) (sIf (mTest (mNotN (mVar 6))) (sDrop (mBL fApp (mVar 2) (mCons (mTup (mCons (mVar 4) (mCons (mVar 6) mNil))) mNil))) sSkip))
def s_ways : DS := (sSeq (sIf (mTest (mBin dEqP (mBin dGet (mVar 0) (mVar 1)) (mC k_EVER))) (sRet (mLst mNil)) sSkip) (sSeq (sIf (dAnd (mTest (mBin dEqP (mBin dGet (mVar 0) (mVar 1)) (mC (.int 0)))) (mTest (mBin (dInP true) (mVar 1) (mTup (mCons (mC (.str "reuse")) (mCons (mC (.str "move")) mNil)))))) (sRet (mLst (mCons (mTup (mCons (mTup mNil) (mCons (mC (.int 1)) mNil))) mNil))) sSkip) (sSeq (sSet 2 (mCel mNil)) (sSeq (sFor (gT (gC (gN 3) (gC (gN 4) (gC (gN 5) gZ)))) (miE itP (mC k_WAYS)) b_ways_1) (sFrz 2 (sRet (mVar 2)))))))
def m_ways : Fn := mDef 2 7 s_ways
theorem j_ways {P : Program} {w : World} {K : PySem.W.Frag} {mg : Str → Option Value} {base : Heap} (G : GF K mg) (F_way_distance : Cal P w K mg base 3 "way_distance" 4 [] m_way_distance) (f : Addr) (cdv : Value) (A : Around) (outer : List PySem.Env) (s : Shared) (H : Hp) (E : XK) (c : Ctx (XC P w K mg base N_ways "ways" (defScope (top 17)) f cdv A outer s H E) (WE0 E) 3) :
    JSs (XC P w K mg base N_ways "ways" (defScope (top 17)) f cdv A outer s H E) (WE0 E) (defBody (top 17)) s_ways :=
  (js_cons (js_if (jt_cmp (op_eqP c.hr) oj_eqP (je_dget c (je_var 0) (je_var 1)) (je_cst G.c_EVER)) (js_one (js_ret (je_lst jn_nil))) js_nil) (js_cons (js_if (jt_bool (jw_and (jt_cmp (op_eqP c.hr) oj_eqP (je_dget c (je_var 0) (je_var 1)) je_int) (jw_and1 (jt_cmp (op_ninP c.hr) (oj_inP true) (je_var 1) (je_tup (jn_cons je_str (jn_cons je_str jn_nil))))))) (js_one (js_ret (je_lst (jn_cons (je_tup (jn_cons (je_tup jn_nil) (jn_cons je_int jn_nil))) jn_nil)))) js_nil) (js_cons (js_set c 2 (je_cel jn_nil)) (js_cons (js_for c (ji_any (je_cst G.c_WAYS)) (jg_tup c (jgs_cons (jg_name c 3) (jgs_cons (jg_name c 4) (jgs_cons (jg_name c 5) jgs_nil))) (fits_cons (fits_cons (fits_cons fits_nil)))) (js_cons (js_set c 6 (je_if (jt_cmp (op_inP c.hr) (oj_inP false) (je_var 1) (je_var 3)) (je_call c F_way_distance (by decide) (jn_cons (je_var 0) (jn_cons (je_var 1) (jn_cons (je_var 4) (jn_cons (je_var 5) jn_nil))))) je_non)) (js_one (js_if (jt_notN (je_var 6)) (js_one (js_expr (je_app (je_var 2) (je_tup (jn_cons (je_var 4) (jn_cons (je_var 6) jn_nil)))))) js_nil)))) (js_frz 2 (js_one (js_ret (je_var 2))))))))
/-! first -/
def N_first : List Str := ["depths", "change", "distances", "way", "distance"]
def P_first : List Str := ["depths", "change"]
theorem sc_first : FnScope N_first P_first (defScope (top 18)) := ⟨rfl, rfl, rfl, by decide +kernel, rfl, by decide +kernel, by decide +kernel⟩
def s_first : DS := (sSeq (sSet 2 (mLc (miE itP (mCall m_ways (mCons (mVar 0) (mCons (mVar 1) mNil)) mNil)) (gN 3) tYesM (mB dInt (mCons (mBin dIx (mVar 3) (mC (.int 1))) mNil)) [3])) (sRet (mIf (mTru (mVar 2)) (mB dMin (mCons (mLc (miE itP (mVar 2)) (gN 4) tYesM (mB dInt (mCons (mVar 4) mNil)) [4]) mNil)) (mC .non))))
def m_first : Fn := mDef 2 5 s_first
theorem j_first {P : Program} {w : World} {K : PySem.W.Frag} {mg : Str → Option Value} {base : Heap} (G : GF K mg) (F_ways : Cal P w K mg base 4 "ways" 2 [] m_ways) (f : Addr) (cdv : Value) (A : Around) (outer : List PySem.Env) (s : Shared) (H : Hp) (E : XK) (c : Ctx (XC P w K mg base N_first "first" (defScope (top 18)) f cdv A outer s H E) (WE0 E) 4) :
    JSs (XC P w K mg base N_first "first" (defScope (top 18)) f cdv A outer s H E) (WE0 E) (defBody (top 18)) s_first :=
  (js_cons (js_setLc c 2 (own := [("way", 3)]) (ji_any (je_call c F_ways (by decide) (jn_cons (je_var 0) (jn_cons (je_var 1) jn_nil)))) (by kernel_rfl) (fun _ _ _ _ _ c1 => (jg_name c1 3)) (fun _ _ _ _ _ c1 => jts_nil) (fun _ _ _ _ _ c1 => (je_callTy call_int1 cj_int G.b_int rfl (jn_cons (je_ix (je_var 3) je_int) jn_nil)))) (js_one (js_ret (je_if (jt_tru (je_var 2)) (je_callB (cr_min c.cm) cj_minL G.b_min rfl (jn_cons (je_lc c (own := [("distance", 4)]) (ji_any (je_var 2)) (by kernel_rfl) (fun _ _ _ _ _ c1 => (jg_name c1 4)) (fun _ _ _ _ _ c1 => jts_nil) (fun _ _ _ _ _ c1 => (je_callTy call_int1 cj_int G.b_int rfl (jn_cons (je_var 4) jn_nil)))) jn_nil)) je_non))))
/-! is_depth -/
def N_is_depth : List Str := ["value"]
def P_is_depth : List Str := ["value"]
theorem sc_is_depth : FnScope N_is_depth P_is_depth (defScope (top 20)) := ⟨rfl, rfl, rfl, by decide +kernel, rfl, by decide +kernel, by decide +kernel⟩
def s_is_depth : DS := (sSeq (sIf (mTru (mB (dIsi isT) (mCons (mVar 0) (mCons (mC (.ty "str")) mNil)))) (sRet (mBin dEqP (mVar 0) (mC k_EVER))) sSkip) (sRet (mAnd (mCall m_is_integer (mCons (mVar 0) mNil) mNil) (mBin dGe (mVar 0) (mC (.int 0))))))
def m_is_depth : Fn := mDef 1 1 s_is_depth
theorem j_is_depth {P : Program} {w : World} {K : PySem.W.Frag} {mg : Str → Option Value} {base : Heap} (G : GF K mg) (F_is_integer : Cal P w K mg base 1 "is_integer" 1 [] m_is_integer) (f : Addr) (cdv : Value) (A : Around) (outer : List PySem.Env) (s : Shared) (H : Hp) (E : XK) (c : Ctx (XC P w K mg base N_is_depth "is_depth" (defScope (top 20)) f cdv A outer s H E) (WE0 E) 1) :
    JSs (XC P w K mg base N_is_depth "is_depth" (defScope (top 20)) f cdv A outer s H E) (WE0 E) (defBody (top 20)) s_is_depth :=
  (js_cons (js_if (jt_tru (je_callB call_isi (cj_isi G.isf) G.b_isinstance rfl (jn_cons (je_var 0) (jn_cons (je_ty G.b_str rfl) jn_nil)))) (js_one (js_ret (je_cmp (op_eqP c.hr) oj_eqP (je_var 0) (je_cst G.c_EVER)))) js_nil) (js_one (js_ret (je_and (je_call c F_is_integer (by decide) (jn_cons (je_var 0) jn_nil)) (je_one (je_cmp op_ge oj_ge (je_var 0) je_int))))))
/-! is_change -/
def N_is_change : List Str := ["value"]
def P_is_change : List Str := ["value"]
theorem sc_is_change : FnScope N_is_change P_is_change (defScope (top 21)) := ⟨rfl, rfl, rfl, by decide +kernel, rfl, by decide +kernel, by decide +kernel⟩
def s_is_change : DS := (sRet (mAnd (mB (dIsi isT) (mCons (mVar 0) (mCons (mC (.ty "str")) mNil))) (mBin (dInP false) (mVar 0) (mC k_CHANGES))))
def m_is_change : Fn := mDef 1 1 s_is_change
theorem j_is_change {P : Program} {w : World} {K : PySem.W.Frag} {mg : Str → Option Value} {base : Heap} (G : GF K mg)  (f : Addr) (cdv : Value) (A : Around) (outer : List PySem.Env) (s : Shared) (H : Hp) (E : XK) (c : Ctx (XC P w K mg base N_is_change "is_change" (defScope (top 21)) f cdv A outer s H E) (WE0 E) 0) :
    JSs (XC P w K mg base N_is_change "is_change" (defScope (top 21)) f cdv A outer s H E) (WE0 E) (defBody (top 21)) s_is_change :=
  (js_one (js_ret (je_and (je_callB call_isi (cj_isi G.isf) G.b_isinstance rfl (jn_cons (je_var 0) (jn_cons (je_ty G.b_str rfl) jn_nil))) (je_one (je_cmp (op_inP c.hr) (oj_inP false) (je_var 0) (je_cst G.c_CHANGES))))))
/-! Wish.__init__ -/
def N_Wish_init : List Str := ["self", "back", "ahead"]
def P_Wish_init : List Str := ["self", "back", "ahead"]
theorem sc_Wish_init : FnScope N_Wish_init P_Wish_init (defScope (met 27 1)) := ⟨rfl, rfl, rfl, by decide +kernel, rfl, by decide +kernel, by decide +kernel⟩
def s_Wish_init : DS := (sSeq (sIf (dNot (mTru (mCall m_is_depth (mCons (mVar 1) mNil) mNil))) sStk sSkip) (sSeq (sIf (dNot (mTru (mCall m_is_depth (mCons (mVar 2) mNil) mNil))) sStk sSkip) (sSeq (sFldM "Wish" "back" (mVar 0) (mVar 1)) (sFldM "Wish" "ahead" (mVar 0) (mVar 2)))))
def m_Wish_init : Fn := mDef 3 3 s_Wish_init
theorem j_Wish_init {P : Program} {w : World} {K : PySem.W.Frag} {mg : Str → Option Value} {base : Heap} (G : GF K mg) (F_is_depth : Cal P w K mg base 2 "is_depth" 1 [] m_is_depth) (f : Addr) (cdv : Value) (A : Around) (outer : List PySem.Env) (s : Shared) (H : Hp) (E : XK) (c : Ctx (XC P w K mg base N_Wish_init "Wish.__init__" (defScope (met 27 1)) f cdv A outer s H E) (WE0 E) 2) :
    JSs (XC P w K mg base N_Wish_init "Wish.__init__" (defScope (met 27 1)) f cdv A outer s H E) (WE0 E) (defBody (met 27 1)) s_Wish_init :=
  (js_cons (js_if (jt_not (jt_tru (je_call c F_is_depth (by decide) (jn_cons (je_var 1) jn_nil)))) (js_one js_stk) js_nil) (js_cons (js_if (jt_not (jt_tru (je_call c F_is_depth (by decide) (jn_cons (je_var 2) jn_nil)))) (js_one js_stk) js_nil) (js_cons (js_fld "Wish" G.cl_Wish G.na_Wish_back (je_var 0) (je_var 1)) (js_one (js_fld "Wish" G.cl_Wish G.na_Wish_ahead (je_var 0) (je_var 2))))))
def m_Wish_init_K : Fn := fun as S => m_Wish_init (as.take 1 ++ as.drop 1) S
def m_Wish_init_Z : Fn := fun as S => m_Wish_init (as.take 1 ++ [Dat.int 0, .int 0]) S
/-! Wish.wanted -/
def N_Wish_wanted : List Str := ["self", "change", "back", "ahead"]
def P_Wish_wanted : List Str := ["self", "change"]
theorem sc_Wish_wanted : FnScope N_Wish_wanted P_Wish_wanted (defScope (met 27 4)) := ⟨rfl, rfl, rfl, by decide +kernel, rfl, by decide +kernel, by decide +kernel⟩
def s_Wish_wanted : DS := (sSeq (sSet 2 (mIf (mTest (mBin (dInP false) (mVar 1) (mC k_BACK))) (mFld "Wish" "back" (mVar 0)) (mC (.int 0)))) (sSeq (sSet 3 (mIf (mTest (mBin (dInP false) (mVar 1) (mC k_AHEAD))) (mFld "Wish" "ahead" (mVar 0)) (mC (.int 0)))) (sRet (mCall m_deeper (mCons (mVar 2) (mCons (mVar 3) mNil)) mNil))))
def m_Wish_wanted : Fn := mDef 2 4 s_Wish_wanted
theorem j_Wish_wanted {P : Program} {w : World} {K : PySem.W.Frag} {mg : Str → Option Value} {base : Heap} (G : GF K mg) (F_deeper : Cal P w K mg base 2 "deeper" 2 [] m_deeper) (f : Addr) (cdv : Value) (A : Around) (outer : List PySem.Env) (s : Shared) (H : Hp) (E : XK) (c : Ctx (XC P w K mg base N_Wish_wanted "Wish.wanted" (defScope (met 27 4)) f cdv A outer s H E) (WE0 E) 2) :
    JSs (XC P w K mg base N_Wish_wanted "Wish.wanted" (defScope (met 27 4)) f cdv A outer s H E) (WE0 E) (defBody (met 27 4)) s_Wish_wanted :=
  (js_cons (js_set c 2 (je_if (jt_cmp (op_inP c.hr) (oj_inP false) (je_var 1) (je_cst G.c_BACK)) (je_fld "Wish" G.cl_Wish G.na_Wish_back (je_var 0)) je_int)) (js_cons (js_set c 3 (je_if (jt_cmp (op_inP c.hr) (oj_inP false) (je_var 1) (je_cst G.c_AHEAD)) (je_fld "Wish" G.cl_Wish G.na_Wish_ahead (je_var 0)) je_int)) (js_one (js_ret (je_call c F_deeper (by decide) (jn_cons (je_var 2) (jn_cons (je_var 3) jn_nil)))))))
/-! is_enough -/
def N_is_enough : List Str := ["depths", "wish", "change", "distance"]
def P_is_enough : List Str := ["depths", "wish"]
theorem sc_is_enough : FnScope N_is_enough P_is_enough (defScope (top 23)) := ⟨rfl, rfl, rfl, by decide +kernel, rfl, by decide +kernel, by decide +kernel⟩
def b_is_enough_1 : DS := (sSeq (sSet 3 (mCall m_first (mCons (mVar 0) (mCons (mVar 2) mNil)) mNil)) (sIf (dAnd (mTest (mNotN (mVar 3))) (dNot (mTru (mCall m_is_deeper (mCons (mVar 3) (mCons (mMeth "Wish" "wanted" m_Wish_wanted (mVar 1) (mCons (mVar 2) mNil) mNil) mNil)) mNil)))) (sRet (mC (.bl false))) sSkip))
def s_is_enough : DS := (sSeq (sFor (gN 2) (miE itP (mC k_CHANGES)) b_is_enough_1) (sRet (mC (.bl true))))
def m_is_enough : Fn := mDef 2 4 s_is_enough
theorem j_is_enough {P : Program} {w : World} {K : PySem.W.Frag} {mg : Str → Option Value} {base : Heap} (G : GF K mg) (F_first : Cal P w K mg base 5 "first" 2 [] m_first) (F_is_deeper : Cal P w K mg base 1 "is_deeper" 2 [] m_is_deeper) (F_Wish_wanted : Mth P w K mg base 3 "Wish" "wanted" 1 [] m_Wish_wanted) (f : Addr) (cdv : Value) (A : Around) (outer : List PySem.Env) (s : Shared) (H : Hp) (E : XK) (c : Ctx (XC P w K mg base N_is_enough "is_enough" (defScope (top 23)) f cdv A outer s H E) (WE0 E) 5) :
    JSs (XC P w K mg base N_is_enough "is_enough" (defScope (top 23)) f cdv A outer s H E) (WE0 E) (defBody (top 23)) s_is_enough :=
  (js_cons (js_for c (ji_any (je_cst G.c_CHANGES)) (jg_name c 2) (js_cons (js_set c 3 (je_call c F_first (by decide) (jn_cons (je_var 0) (jn_cons (je_var 2) jn_nil)))) (js_one (js_if (jt_bool (jw_and (jt_notN (je_var 3)) (jw_and1 (jt_not (jt_tru (je_call c F_is_deeper (by decide) (jn_cons (je_var 3) (jn_cons (je_meth c F_Wish_wanted (by decide) (je_var 1) (jn_cons (je_var 2) jn_nil)) jn_nil)))))))) (js_one (js_ret je_bl)) js_nil)))) (js_one (js_ret je_bl)))
/-! possible_lasts -/
def N_possible_lasts : List Str := ["wish", "finite", "worth"]
def P_possible_lasts : List Str := ["wish"]
theorem sc_possible_lasts : FnScope N_possible_lasts P_possible_lasts (defScope (top 24)) := ⟨rfl, rfl, rfl, by decide +kernel, rfl, by decide +kernel, by decide +kernel⟩
def s_possible_lasts : DS := (sSeq (sSet 1 (mLc (miE itP (mTup (mCons (mC (.int 0)) (mCons (mC (.int 1)) (mCons (mFld "Wish" "back" (mVar 0)) (mCons (mFld "Wish" "ahead" (mVar 0)) mNil)))))) (gN 2) (mTest (mBin dNeP (mVar 2) (mC k_EVER))) (mVar 2) [2])) (sRet (mLstV (mStar (mB dSrt (mCons (mLc (miE itP (mVar 1)) (gN 2) tYesM (mB dInt (mCons (mVar 2) mNil)) [2]) mNil)) (mCons (mC k_EVER) mNil)))))
def m_possible_lasts : Fn := mDef 1 3 s_possible_lasts
theorem j_possible_lasts {P : Program} {w : World} {K : PySem.W.Frag} {mg : Str → Option Value} {base : Heap} (G : GF K mg)  (f : Addr) (cdv : Value) (A : Around) (outer : List PySem.Env) (s : Shared) (H : Hp) (E : XK) (c : Ctx (XC P w K mg base N_possible_lasts "possible_lasts" (defScope (top 24)) f cdv A outer s H E) (WE0 E) 0) :
    JSs (XC P w K mg base N_possible_lasts "possible_lasts" (defScope (top 24)) f cdv A outer s H E) (WE0 E) (defBody (top 24)) s_possible_lasts :=
  (js_cons (js_setLc c 1 (own := [("worth", 2)]) (ji_any (je_tup (jn_cons je_int (jn_cons je_int (jn_cons (je_fld "Wish" G.cl_Wish G.na_Wish_back (je_var 0)) (jn_cons (je_fld "Wish" G.cl_Wish G.na_Wish_ahead (je_var 0)) jn_nil)))))) (by kernel_rfl) (fun _ _ _ _ _ c1 => (jg_name c1 2)) (fun _ _ _ _ _ c1 => (jts_one (jt_cmp (op_neP c1.hr) oj_neP (je_var 2) (je_cst G.c_EVER)))) (fun _ _ _ _ _ c1 => (je_var 2))) (js_one (js_ret (je_lstV (ja_star (je_callB cr_sorted cj_srt G.b_sorted rfl (jn_cons (je_lc c (own := [("worth", 2)]) (ji_any (je_var 1)) (by kernel_rfl) (fun _ _ _ _ _ c1 => (jg_name c1 2)) (fun _ _ _ _ _ c1 => jts_nil) (fun _ _ _ _ _ c1 => (je_callTy call_int1 cj_int G.b_int rfl (jn_cons (je_var 2) jn_nil)))) jn_nil)) (ja_cons (je_cst G.c_EVER) ja_nil))))))
/-! least_last -/
def N_least_last : List Str := ["changes", "wish", "change", "last"]
def P_least_last : List Str := ["changes", "wish"]
theorem sc_least_last : FnScope N_least_last P_least_last (defScope (top 25)) := ⟨rfl, rfl, rfl, by decide +kernel, rfl, by decide +kernel, by decide +kernel⟩
def b_least_last_1 : DS := (sIf (dNot (mTru (mCall m_is_change (mCons (mVar 2) mNil) mNil))) sStk sSkip)
def b_least_last_2 : DS := (sIf (mTru (mCall m_is_enough (mCons (mDc (miE itP (mC k_CHANGES)) (gN 2) tYesM (mVar 2) (mIf (mTest (mBin (dInP false) (mVar 2) (mVar 0))) (mC (.int 0)) (mVar 3)) [2]) (mCons (mVar 1) mNil)) mNil)) (sRet (mVar 3)) sSkip)
def s_least_last : DS := (sSeq (sFor (gN 2) (miE itP (mVar 0)) b_least_last_1) (sSeq (sFor (gN 3) (miE itP (mCall m_possible_lasts (mCons (mVar 1) mNil) mNil)) b_least_last_2) (sRet (mC .non))))
def m_least_last : Fn := mDef 2 4 s_least_last
theorem j_least_last {P : Program} {w : World} {K : PySem.W.Frag} {mg : Str → Option Value} {base : Heap} (G : GF K mg) (F_is_change : Cal P w K mg base 1 "is_change" 1 [] m_is_change) (F_possible_lasts : Cal P w K mg base 1 "possible_lasts" 1 [] m_possible_lasts) (F_is_enough : Cal P w K mg base 6 "is_enough" 2 [] m_is_enough) (f : Addr) (cdv : Value) (A : Around) (outer : List PySem.Env) (s : Shared) (H : Hp) (E : XK) (c : Ctx (XC P w K mg base N_least_last "least_last" (defScope (top 25)) f cdv A outer s H E) (WE0 E) 6) :
    JSs (XC P w K mg base N_least_last "least_last" (defScope (top 25)) f cdv A outer s H E) (WE0 E) (defBody (top 25)) s_least_last :=
  (js_cons (js_for c (ji_any (je_var 0)) (jg_name c 2) (js_one (js_if (jt_not (jt_tru (je_call c F_is_change (by decide) (jn_cons (je_var 2) jn_nil)))) (js_one js_stk) js_nil))) (js_cons (js_for c (ji_any (je_call c F_possible_lasts (by decide) (jn_cons (je_var 1) jn_nil))) (jg_name c 3) (js_one (js_if (jt_tru (je_call c F_is_enough (by decide) (jn_cons (je_dc c (own := [("change", 2)]) (ji_any (je_cst G.c_CHANGES)) (by kernel_rfl) (fun _ _ _ _ _ c1 => (jg_name c1 2)) (fun _ _ _ _ _ c1 => jts_nil) (fun _ _ _ _ _ c1 => (je_var 2)) (fun _ _ _ _ _ c1 => (je_if (jt_cmp (op_inP c1.hr) (oj_inP false) (je_var 2) (je_var 0)) je_int (je_var 3)))) (jn_cons (je_var 1) jn_nil)))) (js_one (js_ret (je_var 3))) js_nil))) (js_one (js_ret je_non))))
/-! _law_deck -/
def N__law_deck : List Str := ["_law_script", "_law_at", "_law_cell"]
def P__law_deck : List Str := ["_law_script", "_law_at"]
theorem sc__law_deck : FnScope N__law_deck P__law_deck (defScope (top 29)) := ⟨rfl, rfl, rfl, by decide +kernel, rfl, by decide +kernel, by decide +kernel⟩
def s__law_deck : DS := (sSeq (sSet 2 (mIf (mTest (mBin dLt (mVar 1) (mB dLen (mCons (mVar 0) mNil)))) (mB dInt (mCons (mBin dIx (mVar 0) (mVar 1)) mNil)) (mC (.int 0)))) (sRet (mCel (mCons (mIf (mTest (mBin dGe (mB dAbs (mCons (mVar 2) mNil)) (mBin dPow (mC (.int 10)) (mC (.int 18))))) (mB dAbs (mCons (mVar 2) mNil)) (mC (.int 0))) (mCons (mBin dMod (mVar 2) (mC (.int 2305843009213693951))) (mCons (mVar 1) (mCons (mC (.int 0)) mNil)))))))
def m__law_deck : Fn := mDef 2 3 s__law_deck
theorem j__law_deck {P : Program} {w : World} {K : PySem.W.Frag} {mg : Str → Option Value} {base : Heap} (G : GF K mg)  (f : Addr) (cdv : Value) (A : Around) (outer : List PySem.Env) (s : Shared) (H : Hp) (E : XK) (c : Ctx (XC P w K mg base N__law_deck "_law_deck" (defScope (top 29)) f cdv A outer s H E) (WE0 E) 0) :
    JSs (XC P w K mg base N__law_deck "_law_deck" (defScope (top 29)) f cdv A outer s H E) (WE0 E) (defBody (top 29)) s__law_deck :=
  (js_cons (js_set c 2 (je_if (jt_cmp op_lt oj_lt (je_var 1) (je_callB call_lenP cj_len G.b_len rfl (jn_cons (je_var 0) jn_nil))) (je_callTy call_int1 cj_int G.b_int rfl (jn_cons (je_ix (je_var 0) (je_var 1)) jn_nil)) je_int)) (js_one (js_ret (je_cel (jn_cons (je_if (jt_cmp op_ge oj_ge (je_callB call_abs cj_abs G.b_abs rfl (jn_cons (je_var 2) jn_nil)) (je_pow je_int je_int)) (je_callB call_abs cj_abs G.b_abs rfl (jn_cons (je_var 2) jn_nil)) je_int) (jn_cons (je_mod (je_var 2) je_int) (jn_cons (je_var 1) (jn_cons je_int jn_nil))))))))
/-! _law_draw -/
def N__law_draw : List Str := ["_law_deck_here", "_law_many", "_law_digit", "_law_mixed"]
def P__law_draw : List Str := ["_law_deck_here", "_law_many"]
theorem sc__law_draw : FnScope N__law_draw P__law_draw (defScope (top 30)) := ⟨rfl, rfl, rfl, by decide +kernel, rfl, by decide +kernel, by decide +kernel⟩
def s__law_draw : DS := (sSeq (sIf (mTest (mBin dGt (mBin dIx (mVar 0) (mC (.int 0))) (mC (.int 0)))) (sSeq (sSet 2 (mBin dMod (mB dInt (mCons (mBin dIx (mVar 0) (mC (.int 0))) mNil)) (mVar 1))) (sSeq (sAsgH (hSub (mVar 0) (mC (.int 0))) (mBin dFdiv (mBin dIx (mVar 0) (mC (.int 0))) (mVar 1))) (sRet (mVar 2)))) sSkip) (sSeq (sAsgH (hSub (mVar 0) (mC (.int 3))) (mBin dAddP (mBin dIx (mVar 0) (mC (.int 3))) (mC (.int 1)))) (sSeq (sIf (mTest (mBin dEqP (mBin dIx (mVar 0) (mC (.int 1))) (mC (.int 0)))) (sRet (mBin dMod (mB dInt (mCons (mBin dAddP (mBin dIx (mVar 0) (mC (.int 3))) (mBin dIx (mVar 0) (mC (.int 2)))) mNil)) (mVar 1))) sSkip) (sSeq (sSet 3 (mBin dMod (mB dInt (mCons (mBin dPow (mBin dAddP (mBin dAddP (mBin dIx (mVar 0) (mC (.int 1))) (mBin dMul (mC (.int 7368787)) (mBin dIx (mVar 0) (mC (.int 3))))) (mBin dMul (mC (.int 104729)) (mBin dIx (mVar 0) (mC (.int 2))))) (mC (.int 3))) mNil)) (mC (.int 2305843009213693951)))) (sSeq (sSet 3 (mBin dMod (mB dInt (mCons (mBin dPow (mBin dAddP (mBin dAddP (mVar 3) (mBin dMul (mC (.int 15485863)) (mBin dIx (mVar 0) (mC (.int 3))))) (mC (.int 611953))) (mC (.int 2))) mNil)) (mC (.int 1152921504606846883)))) (sRet (mBin dMod (mB dInt (mCons (mBin dFdiv (mVar 3) (mC (.int 4093))) mNil)) (mVar 1))))))))
def m__law_draw : Fn := mDef 2 4 s__law_draw
theorem j__law_draw {P : Program} {w : World} {K : PySem.W.Frag} {mg : Str → Option Value} {base : Heap} (G : GF K mg)  (f : Addr) (cdv : Value) (A : Around) (outer : List PySem.Env) (s : Shared) (H : Hp) (E : XK) (c : Ctx (XC P w K mg base N__law_draw "_law_draw" (defScope (top 30)) f cdv A outer s H E) (WE0 E) 0) :
    JSs (XC P w K mg base N__law_draw "_law_draw" (defScope (top 30)) f cdv A outer s H E) (WE0 E) (defBody (top 30)) s__law_draw :=
  (js_cons (js_if (jt_cmp op_gt oj_gt (je_ix (je_var 0) je_int) je_int) (js_cons (js_set c 2 (je_mod (je_callTy call_int1 cj_int G.b_int rfl (jn_cons (je_ix (je_var 0) je_int) jn_nil)) (je_var 1))) (js_cons (js_asgH (jh_sub c (je_var 0) je_int) (je_fdiv (je_ix (je_var 0) je_int) (je_var 1))) (js_one (js_ret (je_var 2))))) js_nil) (js_cons (js_asgH (jh_sub c (je_var 0) je_int) (je_addP (je_ix (je_var 0) je_int) je_int)) (js_cons (js_if (jt_cmp (op_eqP c.hr) oj_eqP (je_ix (je_var 0) je_int) je_int) (js_one (js_ret (je_mod (je_callTy call_int1 cj_int G.b_int rfl (jn_cons (je_addP (je_ix (je_var 0) je_int) (je_ix (je_var 0) je_int)) jn_nil)) (je_var 1)))) js_nil) (js_cons (js_set c 3 (je_mod (je_callTy call_int1 cj_int G.b_int rfl (jn_cons (je_pow (je_addP (je_addP (je_ix (je_var 0) je_int) (je_mul je_int (je_ix (je_var 0) je_int))) (je_mul je_int (je_ix (je_var 0) je_int))) je_int) jn_nil)) je_int)) (js_cons (js_set c 3 (je_mod (je_callTy call_int1 cj_int G.b_int rfl (jn_cons (je_pow (je_addP (je_addP (je_var 3) (je_mul je_int (je_ix (je_var 0) je_int))) je_int) je_int) jn_nil)) je_int)) (js_one (js_ret (je_mod (je_callTy call_int1 cj_int G.b_int rfl (jn_cons (je_fdiv (je_var 3) je_int) jn_nil)) (je_var 1)))))))))
/-! _law_pick -/
def N__law_pick : List Str := ["_law_deck_here", "_law_some"]
def P__law_pick : List Str := ["_law_deck_here", "_law_some"]
theorem sc__law_pick : FnScope N__law_pick P__law_pick (defScope (top 31)) := ⟨rfl, rfl, rfl, by decide +kernel, rfl, by decide +kernel, by decide +kernel⟩
def s__law_pick : DS := (sRet (mBin dIx (mVar 1) (mCall m__law_draw (mCons (mVar 0) (mCons (mB dLen (mCons (mVar 1) mNil)) mNil)) mNil)))
def m__law_pick : Fn := mDef 2 2 s__law_pick
theorem j__law_pick {P : Program} {w : World} {K : PySem.W.Frag} {mg : Str → Option Value} {base : Heap} (G : GF K mg) (F__law_draw : Cal P w K mg base 1 "_law_draw" 2 [] m__law_draw) (f : Addr) (cdv : Value) (A : Around) (outer : List PySem.Env) (s : Shared) (H : Hp) (E : XK) (c : Ctx (XC P w K mg base N__law_pick "_law_pick" (defScope (top 31)) f cdv A outer s H E) (WE0 E) 1) :
    JSs (XC P w K mg base N__law_pick "_law_pick" (defScope (top 31)) f cdv A outer s H E) (WE0 E) (defBody (top 31)) s__law_pick :=
  (js_one (js_ret (je_ix (je_var 1) (je_call c F__law_draw (by decide) (jn_cons (je_var 0) (jn_cons (je_callB call_lenP cj_len G.b_len rfl (jn_cons (je_var 1) jn_nil)) jn_nil))))))
/-! _law_names -/
def N__law_names : List Str := []
def P__law_names : List Str := []
theorem sc__law_names : FnScope N__law_names P__law_names (defScope (top 32)) := ⟨rfl, rfl, rfl, by decide +kernel, rfl, by decide +kernel, by decide +kernel⟩
def s__law_names : DS := (sRet (mBS fSplit (mC (.str "add offer drop retire need ease preset widen narrow recode swap reuse move")) (mCons (mC (.str " ")) mNil)))
def m__law_names : Fn := mDef 0 0 s__law_names
theorem j__law_names {P : Program} {w : World} {K : PySem.W.Frag} {mg : Str → Option Value} {base : Heap} (G : GF K mg)  (f : Addr) (cdv : Value) (A : Around) (outer : List PySem.Env) (s : Shared) (H : Hp) (E : XK) (c : Ctx (XC P w K mg base N__law_names "_law_names" (defScope (top 32)) f cdv A outer s H E) (WE0 E) 0) :
    JSs (XC P w K mg base N__law_names "_law_names" (defScope (top 32)) f cdv A outer s H E) (WE0 E) (defBody (top 32)) s__law_names :=
  (js_one (js_ret (je_split je_str (ja_cons je_str ja_nil))))
/-! _law_ways -/
def N__law_ways : List Str := ["_law_change", "_law_kinds", "_law_places", "_law_table", "_law_line", "_law_part"]
def P__law_ways : List Str := ["_law_change"]
theorem sc__law_ways : FnScope N__law_ways P__law_ways (defScope (top 33)) := ⟨rfl, rfl, rfl, by decide +kernel, rfl, by decide +kernel, by decide +kernel⟩
def s__law_ways : DS := (sSeq (sAsg (gT (gC (gN 1) (gC (gN 2) gZ))) (mTup (mCons (mC (.str "drop add:;drop offer:ease;retire add:need")) (mCons (mC (.str "drop add:;drop offer:;retire add:;retire offer:")) mNil)))) (sSeq (sSet 3 (mDisC (mPc (mC (.str "add")) (mC (.str "offer need:")) (mPc (mC (.str "offer")) (mC (.str "add ease:")) (mPc (mC (.str "drop")) (mC (.str "ease retire:")) (mPc (mC (.str "retire")) (mC (.str "need drop:")) mPn)))))) (sSeq (sAsgH (hT (hC (hSub (mVar 3) (mC (.str "need"))) (hC (hSub (mVar 3) (mC (.str "ease"))) (hC (hSub (mVar 3) (mC (.str "reuse"))) (hC (hSub (mVar 3) (mC (.str "move"))) hZ))))) (mTup (mCons (mC (.str "retire add:")) (mCons (mC (.str "drop offer:")) (mCons (mVar 2) (mCons (mVar 2) mNil)))))) (sSeq (sAsgH (hSub (mVar 3) (mC (.str "preset"))) (mC (.str "need ease:;retire offer:;retire add ease:need offer;need drop offer:retire ease"))) (sSeq (sAsgH (hSub (mVar 3) (mC (.str "widen"))) (mBin dAddP (mC (.str "recode:;swap:;retire offer:;")) (mVar 1))) (sSeq (sAsgH (hT (hC (hSub (mVar 3) (mC (.str "narrow"))) (hC (hSub (mVar 3) (mC (.str "recode"))) hZ))) (mTup (mCons (mBin dAddP (mC (.str "recode:;swap:;retire offer:;")) (mVar 1)) (mCons (mBin dAddP (mC (.str "swap:;retire offer:;")) (mVar 1)) mNil)))) (sSeq (sAsgH (hSub (mVar 3) (mC (.str "swap"))) (mBin dAddP (mC (.str "retire offer:preset;")) (mVar 1))) (sRet (mLc (miE itP (mBS fSplit (mBin dGet (mVar 3) (mVar 0)) (mCons (mC (.str ";")) mNil))) (gN 4) tYesM (mLc (miE itP (mBS fSplit (mVar 4) (mCons (mC (.str ":")) mNil))) (gN 5) tYesM (mBS fWords (mVar 5) mNil) [5]) [4])))))))))
def m__law_ways : Fn := mDef 1 6 s__law_ways
theorem j__law_ways {P : Program} {w : World} {K : PySem.W.Frag} {mg : Str → Option Value} {base : Heap} (G : GF K mg)  (f : Addr) (cdv : Value) (A : Around) (outer : List PySem.Env) (s : Shared) (H : Hp) (E : XK) (c : Ctx (XC P w K mg base N__law_ways "_law_ways" (defScope (top 33)) f cdv A outer s H E) (WE0 E) 0) :
    JSs (XC P w K mg base N__law_ways "_law_ways" (defScope (top 33)) f cdv A outer s H E) (WE0 E) (defBody (top 33)) s__law_ways :=
  (js_cons (js_asg (jg_tup c (jgs_cons (jg_name c 1) (jgs_cons (jg_name c 2) jgs_nil)) (fits_cons (fits_cons fits_nil))) (je_tup (jn_cons je_str (jn_cons je_str jn_nil)))) (js_cons (js_set c 3 (je_disC (jp_cons je_str je_str (jp_cons je_str je_str (jp_cons je_str je_str (jp_cons je_str je_str jp_nil)))))) (js_cons (js_asgH (jh_tup c (jhs_cons (jh_sub c (je_var 3) je_str) (jhs_cons (jh_sub c (je_var 3) je_str) (jhs_cons (jh_sub c (je_var 3) je_str) (jhs_cons (jh_sub c (je_var 3) je_str) jhs_nil))))) (je_tup (jn_cons je_str (jn_cons je_str (jn_cons (je_var 2) (jn_cons (je_var 2) jn_nil)))))) (js_cons (js_asgH (jh_sub c (je_var 3) je_str) je_str) (js_cons (js_asgH (jh_sub c (je_var 3) je_str) (je_addP je_str (je_var 1))) (js_cons (js_asgH (jh_tup c (jhs_cons (jh_sub c (je_var 3) je_str) (jhs_cons (jh_sub c (je_var 3) je_str) jhs_nil))) (je_tup (jn_cons (je_addP je_str (je_var 1)) (jn_cons (je_addP je_str (je_var 1)) jn_nil)))) (js_cons (js_asgH (jh_sub c (je_var 3) je_str) (je_addP je_str (je_var 1))) (js_one (js_ret (je_lc c (own := [("_law_line", 4)]) (ji_any (je_split (je_dget c (je_var 3) (je_var 0)) (ja_cons je_str ja_nil))) (by kernel_rfl) (fun _ _ _ _ _ c1 => (jg_name c1 4)) (fun _ _ _ _ _ c1 => jts_nil) (fun _ _ _ _ _ c1 => (je_lc c1 (own := [("_law_part", 5)]) (ji_any (je_split (je_var 4) (ja_cons je_str ja_nil))) (by kernel_rfl) (fun _ _ _ _ _ c2 => (jg_name c2 5)) (fun _ _ _ _ _ c2 => jts_nil) (fun _ _ _ _ _ c2 => (je_words (je_var 5)))))))))))))))
/-! _law_first -/
def N__law_first : List Str := ["_law_depths", "_law_change", "_law_found", "_law_steps", "_law_waits", "_law_worths", "_law_is_open", "_law_total", "_law_wait", "_law_distance", "_law_step", "_law_worth"]
def P__law_first : List Str := ["_law_depths", "_law_change"]
theorem sc__law_first : FnScope N__law_first P__law_first (defScope (top 34)) := ⟨rfl, rfl, rfl, by decide +kernel, rfl, by decide +kernel, by decide +kernel⟩
def b__law_first_1 : DS := (sSeq (sSet 5 (mLc (miE itP (mVar 4)) (gN 8) tYesM (mBin dGet (mVar 0) (mVar 8)) [8])) (sSeq (sSet 6 (mAnd (mB dAll (mCons (mLc (miE itP (mVar 3)) (gN 10) tYesM (mBin dEqP (mBin dGet (mVar 0) (mVar 10)) (mC (.int 0))) [10]) mNil)) (mBin (dInP true) (mC (.str "ever")) (mVar 5)))) (sIf (dAnd (mTru (mVar 6)) (dOr (mTest (mBin dLt (mB dLen (mCons (mVar 4) mNil)) (mC (.int 2)))) (mTest (mBin (dInP true) (mC (.int 0)) (mVar 5))))) (sSeq (sSet 7 (mB dSum (mCons (mLc (miE itP (mVar 5)) (gN 11) tYesM (mB dInt (mCons (mVar 11) mNil)) [11]) mNil))) (sDrop (mBL fApp (mVar 2) (mCons (mBin dAddP (mC (.int 1)) (mB dMax (mCons (mLst (mCons (mB dInt (mCons (mBin dGet (mVar 0) (mVar 1)) mNil)) (mCons (mB dInt (mCons (mVar 7) mNil)) mNil))) mNil))) mNil)))) sSkip)))
def s__law_first : DS := (sSeq (sIf (mTest (mBin dEqP (mBin dGet (mVar 0) (mVar 1)) (mC (.str "ever")))) (sRet (mC .non)) sSkip) (sSeq (sIf (dAnd (mTest (mBin dEqP (mBin dGet (mVar 0) (mVar 1)) (mC (.int 0)))) (mTest (mBin (dInP true) (mVar 1) (mLst (mCons (mC (.str "reuse")) (mCons (mC (.str "move")) mNil)))))) (sRet (mC (.int 1))) sSkip) (sSeq (sSet 2 (mCel mNil)) (sSeq (sFor (gTL (gC (gN 3) (gC (gN 4) gZ))) (miE itP (mCall m__law_ways (mCons (mVar 1) mNil) mNil)) b__law_first_1) (sFrz 2 (sRet (mIf (mTru (mVar 2)) (mB dMin (mCons (mLc (miE itP (mVar 2)) (gN 9) tYesM (mB dInt (mCons (mVar 9) mNil)) [9]) mNil)) (mC .non))))))))
def m__law_first : Fn := mDef 2 12 s__law_first
theorem j__law_first {P : Program} {w : World} {K : PySem.W.Frag} {mg : Str → Option Value} {base : Heap} (G : GF K mg) (F__law_ways : Cal P w K mg base 1 "_law_ways" 1 [] m__law_ways) (f : Addr) (cdv : Value) (A : Around) (outer : List PySem.Env) (s : Shared) (H : Hp) (E : XK) (c : Ctx (XC P w K mg base N__law_first "_law_first" (defScope (top 34)) f cdv A outer s H E) (WE0 E) 1) :
    JSs (XC P w K mg base N__law_first "_law_first" (defScope (top 34)) f cdv A outer s H E) (WE0 E) (defBody (top 34)) s__law_first :=
  (js_cons (js_if (jt_cmp (op_eqP c.hr) oj_eqP (je_dget c (je_var 0) (je_var 1)) je_str) (js_one (js_ret je_non)) js_nil) (js_cons (js_if (jt_bool (jw_and (jt_cmp (op_eqP c.hr) oj_eqP (je_dget c (je_var 0) (je_var 1)) je_int) (jw_and1 (jt_cmp (op_ninP c.hr) (oj_inP true) (je_var 1) (je_lst (jn_cons je_str (jn_cons je_str jn_nil))))))) (js_one (js_ret je_int)) js_nil) (js_cons (js_set c 2 (je_cel jn_nil)) (js_cons (js_for c (ji_any (je_call c F__law_ways (by decide) (jn_cons (je_var 1) jn_nil))) (jg_lst c (jgs_cons (jg_name c 3) (jgs_cons (jg_name c 4) jgs_nil)) (fits_cons (fits_cons fits_nil))) (js_cons (js_setLc c 5 (own := [("_law_wait", 8)]) (ji_any (je_var 4)) (by kernel_rfl) (fun _ _ _ _ _ c1 => (jg_name c1 8)) (fun _ _ _ _ _ c1 => jts_nil) (fun _ _ _ _ _ c1 => (je_dget c1 (je_var 0) (je_var 8)))) (js_cons (js_set c 6 (je_and (je_callB (cr_all c.cm) cj_all G.b_all rfl (jn_cons (je_lc c (own := [("_law_step", 10)]) (ji_any (je_var 3)) (by kernel_rfl) (fun _ _ _ _ _ c1 => (jg_name c1 10)) (fun _ _ _ _ _ c1 => jts_nil) (fun _ _ _ _ _ c1 => (je_cmp (op_eqP c1.hr) oj_eqP (je_dget c1 (je_var 0) (je_var 10)) je_int))) jn_nil)) (je_one (je_cmp (op_ninP c.hr) (oj_inP true) je_str (je_var 5))))) (js_one (js_if (jt_bool (jw_and (jt_tru (je_var 6)) (jw_and1 (jt_bool (jw_or (jt_cmp op_lt oj_lt (je_callB call_lenP cj_len G.b_len rfl (jn_cons (je_var 4) jn_nil)) je_int) (jw_or1 (jt_cmp (op_ninP c.hr) (oj_inP true) je_int (je_var 5)))))))) (js_cons (js_set c 7 (je_callB (cr_sum c.cm) cj_sum G.b_sum rfl (jn_cons (je_lc c (own := [("_law_worth", 11)]) (ji_any (je_var 5)) (by kernel_rfl) (fun _ _ _ _ _ c1 => (jg_name c1 11)) (fun _ _ _ _ _ c1 => jts_nil) (fun _ _ _ _ _ c1 => (je_callTy call_int1 cj_int G.b_int rfl (jn_cons (je_var 11) jn_nil)))) jn_nil))) (js_one (js_expr (je_app (je_var 2) (je_addP je_int (je_callB (cr_max c.cm) cj_maxL G.b_max rfl (jn_cons (je_lst (jn_cons (je_callTy call_int1 cj_int G.b_int rfl (jn_cons (je_dget c (je_var 0) (je_var 1)) jn_nil)) (jn_cons (je_callTy call_int1 cj_int G.b_int rfl (jn_cons (je_var 7) jn_nil)) jn_nil))) jn_nil))))))) js_nil))))) (js_frz 2 (js_one (js_ret (je_if (jt_tru (je_var 2)) (je_callB (cr_min c.cm) cj_minL G.b_min rfl (jn_cons (je_lc c (own := [("_law_distance", 9)]) (ji_any (je_var 2)) (by kernel_rfl) (fun _ _ _ _ _ c1 => (jg_name c1 9)) (fun _ _ _ _ _ c1 => jts_nil) (fun _ _ _ _ _ c1 => (je_callTy call_int1 cj_int G.b_int rfl (jn_cons (je_var 9) jn_nil)))) jn_nil)) je_non))))))))
/-! _law_wanted -/
def N__law_wanted : List Str := ["_law_change", "_law_behind", "_law_before", "_law_worths", "_law_worth"]
def P__law_wanted : List Str := ["_law_change", "_law_behind", "_law_before"]
theorem sc__law_wanted : FnScope N__law_wanted P__law_wanted (defScope (top 35)) := ⟨rfl, rfl, rfl, by decide +kernel, rfl, by decide +kernel, by decide +kernel⟩
def s__law_wanted : DS := (sSeq (sSet 3 (mCel (mCons (mC (.int 0)) mNil))) (sSeq (sIf (mTest (mBin (dInP false) (mVar 0) (mBS fSplit (mC (.str "add need preset narrow recode swap reuse move")) (mCons (mC (.str " ")) mNil)))) (sDrop (mBL fApp (mVar 3) (mCons (mVar 1) mNil))) sSkip) (sSeq (sIf (mTest (mBin (dInP false) (mVar 0) (mBS fSplit (mC (.str "drop ease preset widen recode swap reuse move")) (mCons (mC (.str " ")) mNil)))) (sDrop (mBL fApp (mVar 3) (mCons (mVar 2) mNil))) sSkip) (sFrz 3 (sRet (mIf (mTest (mBin (dInP false) (mC (.str "ever")) (mVar 3))) (mC (.str "ever")) (mB dMax (mCons (mLc (miE itP (mVar 3)) (gN 4) tYesM (mB dInt (mCons (mVar 4) mNil)) [4]) mNil))))))))
def m__law_wanted : Fn := mDef 3 5 s__law_wanted
theorem j__law_wanted {P : Program} {w : World} {K : PySem.W.Frag} {mg : Str → Option Value} {base : Heap} (G : GF K mg)  (f : Addr) (cdv : Value) (A : Around) (outer : List PySem.Env) (s : Shared) (H : Hp) (E : XK) (c : Ctx (XC P w K mg base N__law_wanted "_law_wanted" (defScope (top 35)) f cdv A outer s H E) (WE0 E) 0) :
    JSs (XC P w K mg base N__law_wanted "_law_wanted" (defScope (top 35)) f cdv A outer s H E) (WE0 E) (defBody (top 35)) s__law_wanted :=
  (js_cons (js_set c 3 (je_cel (jn_cons je_int jn_nil))) (js_cons (js_if (jt_cmp (op_inP c.hr) (oj_inP false) (je_var 0) (je_split je_str (ja_cons je_str ja_nil))) (js_one (js_expr (je_app (je_var 3) (je_var 1)))) js_nil) (js_cons (js_if (jt_cmp (op_inP c.hr) (oj_inP false) (je_var 0) (je_split je_str (ja_cons je_str ja_nil))) (js_one (js_expr (je_app (je_var 3) (je_var 2)))) js_nil) (js_frz 3 (js_one (js_ret (je_if (jt_cmp (op_inP c.hr) (oj_inP false) je_str (je_var 3)) je_str (je_callB (cr_max c.cm) cj_maxL G.b_max rfl (jn_cons (je_lc c (own := [("_law_worth", 4)]) (ji_any (je_var 3)) (by kernel_rfl) (fun _ _ _ _ _ c1 => (jg_name c1 4)) (fun _ _ _ _ _ c1 => jts_nil) (fun _ _ _ _ _ c1 => (je_callTy call_int1 cj_int G.b_int rfl (jn_cons (je_var 4) jn_nil)))) jn_nil)))))))))
/-! _law_safe -/
def N__law_safe : List Str := ["_law_depths", "_law_behind", "_law_before", "_law_name", "_law_distance", "_law_wanted_here"]
def P__law_safe : List Str := ["_law_depths", "_law_behind", "_law_before"]
theorem sc__law_safe : FnScope N__law_safe P__law_safe (defScope (top 36)) := ⟨rfl, rfl, rfl, by decide +kernel, rfl, by decide +kernel, by decide +kernel⟩
def b__law_safe_1 : DS := (sSeq (sPar 4 5 (mCons (mCall m__law_first (mCons (mVar 0) (mCons (mVar 3) mNil)) mNil) (mCons (mCall m__law_wanted (mCons (mVar 3) (mCons (mVar 1) (mCons (mVar 2) mNil))) mNil) mNil))) (sIf (dAnd (mTest (mNotN (mVar 4))) (dOr (mTest (mBin dEqP (mVar 5) (mC (.str "ever")))) (mTest (mBin dLe (mVar 4) (mVar 5))))) (sRet (mC (.bl false))) sSkip))
def s__law_safe : DS := (sSeq (sFor (gN 3) (miE itP (mCall m__law_names mNil mNil)) b__law_safe_1) (sRet (mC (.bl true))))
def m__law_safe : Fn := mDef 3 6 s__law_safe
theorem j__law_safe {P : Program} {w : World} {K : PySem.W.Frag} {mg : Str → Option Value} {base : Heap} (G : GF K mg) (F__law_names : Cal P w K mg base 1 "_law_names" 0 [] m__law_names) (F__law_first : Cal P w K mg base 2 "_law_first" 2 [] m__law_first) (F__law_wanted : Cal P w K mg base 1 "_law_wanted" 3 [] m__law_wanted) (f : Addr) (cdv : Value) (A : Around) (outer : List PySem.Env) (s : Shared) (H : Hp) (E : XK) (c : Ctx (XC P w K mg base N__law_safe "_law_safe" (defScope (top 36)) f cdv A outer s H E) (WE0 E) 2) :
    JSs (XC P w K mg base N__law_safe "_law_safe" (defScope (top 36)) f cdv A outer s H E) (WE0 E) (defBody (top 36)) s__law_safe :=
  (js_cons (js_for c (ji_any (je_call0 c F__law_names (by decide))) (jg_name c 3) (js_cons (js_par c 4 5 (ja_cons (je_call c F__law_first (by decide) (jn_cons (je_var 0) (jn_cons (je_var 3) jn_nil))) (ja_cons (je_call c F__law_wanted (by decide) (jn_cons (je_var 3) (jn_cons (je_var 1) (jn_cons (je_var 2) jn_nil)))) ja_nil))) (js_one (js_if (jt_bool (jw_and (jt_notN (je_var 4)) (jw_and1 (jt_bool (jw_or (jt_cmp (op_eqP c.hr) oj_eqP (je_var 5) je_str) (jw_or1 (jt_cmp op_le oj_le (je_var 4) (je_var 5)))))))) (js_one (js_ret je_bl)) js_nil)))) (js_one (js_ret je_bl)))
/-! _law_wish -/
def N__law_wish : List Str := ["_law_deck_here", "_law_some"]
def P__law_wish : List Str := ["_law_deck_here"]
theorem sc__law_wish : FnScope N__law_wish P__law_wish (defScope (top 37)) := ⟨rfl, rfl, rfl, by decide +kernel, rfl, by decide +kernel, by decide +kernel⟩
def s__law_wish : DS := (sSeq (sSet 1 (mLst (mCons (mC (.int 0)) (mCons (mC (.int 0)) (mCons (mC (.int 1)) (mCons (mC (.int 2)) (mCons (mC (.int 3)) (mCons (mC (.str "ever")) (mCons (mC (.str "ever")) (mCons (mBin dSub (mBin dPow (mC (.int 10)) (mC (.int 30))) (mC (.int 1))) (mCons (mCall m__law_draw (mCons (mVar 0) (mCons (mC (.int 9)) mNil)) mNil) (mCons (mCall m__law_draw (mCons (mVar 0) (mCons (mBin dPow (mC (.int 10)) (mC (.int 30))) mNil)) mNil) mNil)))))))))))) (sRet (mTup (mCons (mCall m__law_pick (mCons (mVar 0) (mCons (mVar 1) mNil)) mNil) (mCons (mCall m__law_pick (mCons (mVar 0) (mCons (mVar 1) mNil)) mNil) mNil)))))
def m__law_wish : Fn := mDef 1 2 s__law_wish
theorem j__law_wish {P : Program} {w : World} {K : PySem.W.Frag} {mg : Str → Option Value} {base : Heap} (G : GF K mg) (F__law_draw : Cal P w K mg base 1 "_law_draw" 2 [] m__law_draw) (F__law_pick : Cal P w K mg base 2 "_law_pick" 2 [] m__law_pick) (f : Addr) (cdv : Value) (A : Around) (outer : List PySem.Env) (s : Shared) (H : Hp) (E : XK) (c : Ctx (XC P w K mg base N__law_wish "_law_wish" (defScope (top 37)) f cdv A outer s H E) (WE0 E) 2) :
    JSs (XC P w K mg base N__law_wish "_law_wish" (defScope (top 37)) f cdv A outer s H E) (WE0 E) (defBody (top 37)) s__law_wish :=
  (js_cons (js_set c 1 (je_lst (jn_cons je_int (jn_cons je_int (jn_cons je_int (jn_cons je_int (jn_cons je_int (jn_cons je_str (jn_cons je_str (jn_cons (je_sub (je_pow je_int je_int) je_int) (jn_cons (je_call c F__law_draw (by decide) (jn_cons (je_var 0) (jn_cons je_int jn_nil))) (jn_cons (je_call c F__law_draw (by decide) (jn_cons (je_var 0) (jn_cons (je_pow je_int je_int) jn_nil))) jn_nil)))))))))))) (js_one (js_ret (je_tup (jn_cons (je_call c F__law_pick (by decide) (jn_cons (je_var 0) (jn_cons (je_var 1) jn_nil))) (jn_cons (je_call c F__law_pick (by decide) (jn_cons (je_var 0) (jn_cons (je_var 1) jn_nil))) jn_nil))))))
/-! _law_permits -/
def N__law_permits : List Str := ["_law_some", "_law_number", "_law_depths", "_law_name"]
def P__law_permits : List Str := ["_law_some", "_law_number"]
theorem sc__law_permits : FnScope N__law_permits P__law_permits (defScope (top 38)) := ⟨rfl, rfl, rfl, by decide +kernel, rfl, by decide +kernel, by decide +kernel⟩
def b__law_permits_1 : DS := (sAsgH (hSub (mVar 2) (mVar 3)) (mIf (mTest (mBin (dInP false) (mVar 3) (mVar 0))) (mC (.int 0)) (mVar 1)))
def s__law_permits : DS := (sSeq (sSet 2 mCelD) (sSeq (sFor (gN 3) (miE itP (mCall m__law_names mNil mNil)) b__law_permits_1) (sFrz 2 (sRet (mVar 2)))))
def m__law_permits : Fn := mDef 2 4 s__law_permits
theorem j__law_permits {P : Program} {w : World} {K : PySem.W.Frag} {mg : Str → Option Value} {base : Heap} (G : GF K mg) (F__law_names : Cal P w K mg base 1 "_law_names" 0 [] m__law_names) (f : Addr) (cdv : Value) (A : Around) (outer : List PySem.Env) (s : Shared) (H : Hp) (E : XK) (c : Ctx (XC P w K mg base N__law_permits "_law_permits" (defScope (top 38)) f cdv A outer s H E) (WE0 E) 1) :
    JSs (XC P w K mg base N__law_permits "_law_permits" (defScope (top 38)) f cdv A outer s H E) (WE0 E) (defBody (top 38)) s__law_permits :=
  (js_cons (js_set c 2 je_celD) (js_cons (js_for c (ji_any (je_call0 c F__law_names (by decide))) (jg_name c 3) (js_one (js_asgH (jh_sub c (je_var 2) (je_var 3)) (je_if (jt_cmp (op_inP c.hr) (oj_inP false) (je_var 3) (je_var 0)) je_int (je_var 1))))) (js_frz 2 (js_one (js_ret (je_var 2))))))
/-! _law_right -/
def N__law_right : List Str := ["_law_told", "_law_some", "_law_behind", "_law_before", "_law_beyond"]
def P__law_right : List Str := ["_law_told", "_law_some", "_law_behind", "_law_before"]
theorem sc__law_right : FnScope N__law_right P__law_right (defScope (top 39)) := ⟨rfl, rfl, rfl, by decide +kernel, rfl, by decide +kernel, by decide +kernel⟩
def s__law_right : DS := (sSeq (sIf (mTest (mIsN (mVar 0))) (sRet (mNot (mCall m__law_safe (mCons (mCall m__law_permits (mCons (mVar 1) (mCons (mC (.str "ever")) mNil)) mNil) (mCons (mVar 2) (mCons (mVar 3) mNil))) mNil))) sSkip) (sSeq (sIf (mTru (mB (dIsi isT) (mCons (mVar 0) (mCons (mC (.ty "str")) mNil)))) (sSeq (sSet 4 (mCall m__law_permits (mCons (mVar 1) (mCons (mBin dPow (mC (.int 10)) (mC (.int 31))) mNil)) mNil)) (sRet (mAnd (mBin dEqP (mVar 0) (mC (.str "ever"))) (mAnd (mCall m__law_safe (mCons (mCall m__law_permits (mCons (mVar 1) (mCons (mVar 0) mNil)) mNil) (mCons (mVar 2) (mCons (mVar 3) mNil))) mNil) (mNot (mCall m__law_safe (mCons (mVar 4) (mCons (mVar 2) (mCons (mVar 3) mNil))) mNil)))))) sSkip) (sSeq (sIf (dOr (dNot (mTru (mB (dIsi isT) (mCons (mVar 0) (mCons (mC (.ty "int")) mNil))))) (dOr (mTru (mB (dIsi isT) (mCons (mVar 0) (mCons (mC (.ty "bool")) mNil)))) (mTest (mBin dLt (mVar 0) (mC (.int 0)))))) (sRet (mC (.bl false))) sSkip) (sSeq (sIf (dNot (mTru (mCall m__law_safe (mCons (mCall m__law_permits (mCons (mVar 1) (mCons (mVar 0) mNil)) mNil) (mCons (mVar 2) (mCons (mVar 3) mNil))) mNil))) (sRet (mC (.bl false))) sSkip) (sRet (mOr (mBin dEqP (mVar 0) (mC (.int 0))) (mNot (mCall m__law_safe (mCons (mCall m__law_permits (mCons (mVar 1) (mCons (mBin dSub (mVar 0) (mC (.int 1))) mNil)) mNil) (mCons (mVar 2) (mCons (mVar 3) mNil))) mNil))))))))
def m__law_right : Fn := mDef 4 5 s__law_right
theorem j__law_right {P : Program} {w : World} {K : PySem.W.Frag} {mg : Str → Option Value} {base : Heap} (G : GF K mg) (F__law_safe : Cal P w K mg base 3 "_law_safe" 3 [] m__law_safe) (F__law_permits : Cal P w K mg base 2 "_law_permits" 2 [] m__law_permits) (f : Addr) (cdv : Value) (A : Around) (outer : List PySem.Env) (s : Shared) (H : Hp) (E : XK) (c : Ctx (XC P w K mg base N__law_right "_law_right" (defScope (top 39)) f cdv A outer s H E) (WE0 E) 3) :
    JSs (XC P w K mg base N__law_right "_law_right" (defScope (top 39)) f cdv A outer s H E) (WE0 E) (defBody (top 39)) s__law_right :=
  (js_cons (js_if (jt_isN (je_var 0)) (js_one (js_ret (je_not (je_call c F__law_safe (by decide) (jn_cons (je_call c F__law_permits (by decide) (jn_cons (je_var 1) (jn_cons je_str jn_nil))) (jn_cons (je_var 2) (jn_cons (je_var 3) jn_nil))))))) js_nil) (js_cons (js_if (jt_tru (je_callB call_isi (cj_isi G.isf) G.b_isinstance rfl (jn_cons (je_var 0) (jn_cons (je_ty G.b_str rfl) jn_nil)))) (js_cons (js_set c 4 (je_call c F__law_permits (by decide) (jn_cons (je_var 1) (jn_cons (je_pow je_int je_int) jn_nil)))) (js_one (js_ret (je_and (je_cmp (op_eqP c.hr) oj_eqP (je_var 0) je_str) (je_and (je_call c F__law_safe (by decide) (jn_cons (je_call c F__law_permits (by decide) (jn_cons (je_var 1) (jn_cons (je_var 0) jn_nil))) (jn_cons (je_var 2) (jn_cons (je_var 3) jn_nil)))) (je_one (je_not (je_call c F__law_safe (by decide) (jn_cons (je_var 4) (jn_cons (je_var 2) (jn_cons (je_var 3) jn_nil))))))))))) js_nil) (js_cons (js_if (jt_bool (jw_or (jt_not (jt_tru (je_callB call_isi (cj_isi G.isf) G.b_isinstance rfl (jn_cons (je_var 0) (jn_cons (je_ty G.b_int rfl) jn_nil))))) (jw_or (jt_tru (je_callB call_isi (cj_isi G.isf) G.b_isinstance rfl (jn_cons (je_var 0) (jn_cons (je_ty G.b_bool rfl) jn_nil)))) (jw_or1 (jt_cmp op_lt oj_lt (je_var 0) je_int))))) (js_one (js_ret je_bl)) js_nil) (js_cons (js_if (jt_not (jt_tru (je_call c F__law_safe (by decide) (jn_cons (je_call c F__law_permits (by decide) (jn_cons (je_var 1) (jn_cons (je_var 0) jn_nil))) (jn_cons (je_var 2) (jn_cons (je_var 3) jn_nil)))))) (js_one (js_ret je_bl)) js_nil) (js_one (js_ret (je_or (je_cmp (op_eqP c.hr) oj_eqP (je_var 0) je_int) (je_one (je_not (je_call c F__law_safe (by decide) (jn_cons (je_call c F__law_permits (by decide) (jn_cons (je_var 1) (jn_cons (je_sub (je_var 0) je_int) jn_nil))) (jn_cons (je_var 2) (jn_cons (je_var 3) jn_nil)))))))))))))
/-! law -/
def N_law : List Str := ["_law_script", "_law_at", "_law_deck_here", "_law_behind", "_law_before", "_law_some", "_law_is_mild", "_law_name", "_law_wish_here", "_law_handed", "_law_told"]
def P_law : List Str := ["_law_script"]
theorem sc_law : FnScope N_law P_law (defScope (top 40)) := ⟨rfl, rfl, rfl, by decide +kernel, rfl, by decide +kernel, by decide +kernel⟩
def b_law_1 : DS := (sIf (dAnd (mTest (mBin dEqP (mCall m__law_draw (mCons (mVar 2) (mCons (mC (.int 2)) mNil)) mNil) (mC (.int 1)))) (dOr (dNot (mTru (mVar 6))) (mTest (mBin dEqP (mCall m__law_wanted (mCons (mVar 7) (mCons (mVar 3) (mCons (mVar 4) mNil))) mNil) (mC (.int 0)))))) (sDrop (mBL fIns (mVar 5) (mCons (mCall m__law_draw (mCons (mVar 2) (mCons (mBin dAddP (mB dLen (mCons (mVar 5) mNil)) (mC (.int 1))) mNil)) mNil) (mCons (mVar 7) mNil)))) sSkip)
def b_law_2 : DS := (sSeq (sSet 2 (mCall m__law_deck (mCons (mVar 0) (mCons (mVar 1) mNil)) mNil)) (sSeq (sAsg (gT (gC (gN 3) (gC (gN 4) gZ))) (mCall m__law_wish (mCons (mVar 2) mNil) mNil)) (sSeq (sPar 5 6 (mCons (mCel mNil) (mCons (mBin dEqP (mCall m__law_draw (mCons (mVar 2) (mCons (mC (.int 2)) mNil)) mNil) (mC (.int 1))) mNil))) (sSeq (sFor (gN 7) (miE itP (mCall m__law_names mNil mNil)) b_law_1) (sSeq (sIf (dAnd (mTru (mVar 5)) (mTest (mBin dEqP (mCall m__law_draw (mCons (mVar 2) (mCons (mC (.int 3)) mNil)) mNil) (mC (.int 0))))) (sDrop (mBL fApp (mVar 5) (mCons (mBin dIx (mVar 5) (mC (.int 0))) mNil))) sSkip) (sFrz 5 (sSeq (sPar 8 9 (mCons (mMake "Wish" m_Wish_init_K mNil (mCons (mVar 3) (mCons (mVar 4) mNil))) (mCons (mB dList (mCons (mVar 5) mNil)) mNil))) (sSeq (sSet 10 (mCall m_least_last (mCons (mVar 9) (mCons (mVar 8) mNil)) mNil)) (sSeq (sIf (dOr (dNot (mTru (mCall m__law_right (mCons (mVar 10) (mCons (mVar 5) (mCons (mVar 3) (mCons (mVar 4) mNil)))) mNil))) (dOr (mTest (mBin dNeP (mVar 9) (mVar 5))) (mTest (mBin dNeP (mCall m_least_last (mCons (mRev (mVar 9)) (mCons (mVar 8) mNil)) mNil) (mVar 10))))) (sRet (mC (.bl false))) sSkip) (sSeq (sIf (mTest (mBin dNeP (mCall m_least_last (mCons (mCall m__law_names mNil mNil) (mCons (mVar 8) mNil)) mNil) (mIf (mTest (mBin dEqP (mLst (mCons (mVar 3) (mCons (mVar 4) mNil))) (mLst (mCons (mC (.int 0)) (mCons (mC (.int 0)) mNil))))) (mC (.int 0)) (mC .non)))) (sRet (mC (.bl false))) sSkip) (sIf (dOr (mTest (mBin dNeP (mCall m_least_last (mCons (mLst mNil) (mCons (mMake "Wish" m_Wish_init_Z mNil mNil) mNil)) mNil) (mC (.int 0)))) (mTest (mBin dNeP (mCall m_least_last (mCons (mB dList (mCons (mVar 5) mNil)) (mCons (mVar 8) mNil)) mNil) (mVar 10)))) (sRet (mC (.bl false))) sSkip)))))))))))
def s_law : DS := (sSeq (sFor (gN 1) (miA rng1 (mCons (mB dMax2 (mCons (mC (.int 1)) (mCons (mB dMin2 (mCons (mC (.int 8)) (mCons (mB dLen (mCons (mVar 0) mNil)) mNil))) mNil))) mNil)) b_law_2) (sRet (mC (.bl true))))
def m_law : Fn := mDef 1 11 s_law
theorem j_law {P : Program} {w : World} {K : PySem.W.Frag} {mg : Str → Option Value} {base : Heap} (G : GF K mg) (F__law_deck : Cal P w K mg base 1 "_law_deck" 2 [] m__law_deck) (F__law_wish : Cal P w K mg base 3 "_law_wish" 1 [] m__law_wish) (F__law_draw : Cal P w K mg base 1 "_law_draw" 2 [] m__law_draw) (F__law_names : Cal P w K mg base 1 "_law_names" 0 [] m__law_names) (F__law_wanted : Cal P w K mg base 1 "_law_wanted" 3 [] m__law_wanted) (F_Wish_K : Mkr P w K mg base 3 "Wish" 0 ["back", "ahead"] m_Wish_init_K) (F_least_last : Cal P w K mg base 7 "least_last" 2 [] m_least_last) (F__law_right : Cal P w K mg base 4 "_law_right" 4 [] m__law_right) (F_Wish_Z : Mkr P w K mg base 3 "Wish" 0 [] m_Wish_init_Z) (f : Addr) (cdv : Value) (A : Around) (outer : List PySem.Env) (s : Shared) (H : Hp) (E : XK) (c : Ctx (XC P w K mg base N_law "law" (defScope (top 40)) f cdv A outer s H E) (WE0 E) 7) :
    JSs (XC P w K mg base N_law "law" (defScope (top 40)) f cdv A outer s H E) (WE0 E) (defBody (top 40)) s_law :=
  (js_cons (js_for c (ji_range1 G.b_range (ja_cons (je_callB (call_max2 c.cm) cj_max2 G.b_max rfl (jn_cons je_int (jn_cons (je_callB (call_min2 c.cm) cj_min2 G.b_min rfl (jn_cons je_int (jn_cons (je_callB call_lenP cj_len G.b_len rfl (jn_cons (je_var 0) jn_nil)) jn_nil))) jn_nil))) ja_nil)) (jg_name c 1) (js_cons (js_set c 2 (je_call c F__law_deck (by decide) (jn_cons (je_var 0) (jn_cons (je_var 1) jn_nil)))) (js_cons (js_asg (jg_tup c (jgs_cons (jg_name c 3) (jgs_cons (jg_name c 4) jgs_nil)) (fits_cons (fits_cons fits_nil))) (je_call c F__law_wish (by decide) (jn_cons (je_var 2) jn_nil))) (js_cons (js_par c 5 6 (ja_cons (je_cel jn_nil) (ja_cons (je_cmp (op_eqP c.hr) oj_eqP (je_call c F__law_draw (by decide) (jn_cons (je_var 2) (jn_cons je_int jn_nil))) je_int) ja_nil))) (js_cons (js_for c (ji_any (je_call0 c F__law_names (by decide))) (jg_name c 7) (js_one (js_if (jt_bool (jw_and (jt_cmp (op_eqP c.hr) oj_eqP (je_call c F__law_draw (by decide) (jn_cons (je_var 2) (jn_cons je_int jn_nil))) je_int) (jw_and1 (jt_bool (jw_or (jt_not (jt_tru (je_var 6))) (jw_or1 (jt_cmp (op_eqP c.hr) oj_eqP (je_call c F__law_wanted (by decide) (jn_cons (je_var 7) (jn_cons (je_var 3) (jn_cons (je_var 4) jn_nil)))) je_int))))))) (js_one (js_expr (je_ins (je_var 5) (ja_cons (je_call c F__law_draw (by decide) (jn_cons (je_var 2) (jn_cons (je_addP (je_callB call_lenP cj_len G.b_len rfl (jn_cons (je_var 5) jn_nil)) je_int) jn_nil))) (ja_cons (je_var 7) ja_nil))))) js_nil))) (js_cons (js_if (jt_bool (jw_and (jt_tru (je_var 5)) (jw_and1 (jt_cmp (op_eqP c.hr) oj_eqP (je_call c F__law_draw (by decide) (jn_cons (je_var 2) (jn_cons je_int jn_nil))) je_int)))) (js_one (js_expr (je_app (je_var 5) (je_ix (je_var 5) je_int)))) js_nil) (js_frz 5 (js_cons (js_par c 8 9 (ja_cons (je_makeK0 c F_Wish_K (by decide) (jk_cons (je_var 3) (jk_cons (je_var 4) jk_nil))) (ja_cons (je_callTy call_list_of cj_list G.b_list rfl (jn_cons (je_var 5) jn_nil)) ja_nil))) (js_cons (js_set c 10 (je_call c F_least_last (by decide) (jn_cons (je_var 9) (jn_cons (je_var 8) jn_nil)))) (js_cons (js_if (jt_bool (jw_or (jt_not (jt_tru (je_call c F__law_right (by decide) (jn_cons (je_var 10) (jn_cons (je_var 5) (jn_cons (je_var 3) (jn_cons (je_var 4) jn_nil))))))) (jw_or (jt_cmp (op_neP c.hr) oj_neP (je_var 9) (je_var 5)) (jw_or1 (jt_cmp (op_neP c.hr) oj_neP (je_call c F_least_last (by decide) (jn_cons (je_rev (je_var 9)) (jn_cons (je_var 8) jn_nil))) (je_var 10)))))) (js_one (js_ret je_bl)) js_nil) (js_cons (js_if (jt_cmp (op_neP c.hr) oj_neP (je_call c F_least_last (by decide) (jn_cons (je_call0 c F__law_names (by decide)) (jn_cons (je_var 8) jn_nil))) (je_if (jt_cmp (op_eqP c.hr) oj_eqP (je_lst (jn_cons (je_var 3) (jn_cons (je_var 4) jn_nil))) (je_lst (jn_cons je_int (jn_cons je_int jn_nil)))) je_int je_non)) (js_one (js_ret je_bl)) js_nil) (js_one (js_if (jt_bool (jw_or (jt_cmp (op_neP c.hr) oj_neP (je_call c F_least_last (by decide) (jn_cons (je_lst jn_nil) (jn_cons (je_make0 c F_Wish_Z (by decide)) jn_nil))) je_int) (jw_or1 (jt_cmp (op_neP c.hr) oj_neP (je_call c F_least_last (by decide) (jn_cons (je_callTy call_list_of cj_list G.b_list rfl (jn_cons (je_var 5) jn_nil)) (jn_cons (je_var 8) jn_nil))) (je_var 10))))) (js_one (js_ret je_bl)) js_nil))))))))))))) (js_one (js_ret je_bl)))
end JK
namespace JK
open PySem PySem.Spec L2 JL
def d_is_integer : He.DefD := ⟨("is_integer", none), "is_integer", "is_integer", defArgs (top 2), defBody (top 2), defScope (top 2), [], []⟩
def d_is_deeper : He.DefD := ⟨("is_deeper", none), "is_deeper", "is_deeper", defArgs (top 13), defBody (top 13), defScope (top 13), [], []⟩
def d_deeper : He.DefD := ⟨("deeper", none), "deeper", "deeper", defArgs (top 14), defBody (top 14), defScope (top 14), [], []⟩
def d_way_distance : He.DefD := ⟨("way_distance", none), "way_distance", "way_distance", defArgs (top 16), defBody (top 16), defScope (top 16), [], []⟩
def d_ways : He.DefD := ⟨("ways", none), "ways", "ways", defArgs (top 17), defBody (top 17), defScope (top 17), [], []⟩
def d_first : He.DefD := ⟨("first", none), "first", "first", defArgs (top 18), defBody (top 18), defScope (top 18), [], []⟩
def d_is_depth : He.DefD := ⟨("is_depth", none), "is_depth", "is_depth", defArgs (top 20), defBody (top 20), defScope (top 20), [], []⟩
def d_is_change : He.DefD := ⟨("is_change", none), "is_change", "is_change", defArgs (top 21), defBody (top 21), defScope (top 21), [], []⟩
def d_Wish_init : He.DefD := ⟨("Wish", some "__init__"), "__init__", "Wish.__init__", defArgs (met 27 1), defBody (met 27 1), defScope (met 27 1), [], [("back", .int 0), ("ahead", .int 0)]⟩
def d_Wish_wanted : He.DefD := ⟨("Wish", some "wanted"), "wanted", "Wish.wanted", defArgs (met 27 4), defBody (met 27 4), defScope (met 27 4), [], []⟩
def d_is_enough : He.DefD := ⟨("is_enough", none), "is_enough", "is_enough", defArgs (top 23), defBody (top 23), defScope (top 23), [], []⟩
def d_possible_lasts : He.DefD := ⟨("possible_lasts", none), "possible_lasts", "possible_lasts", defArgs (top 24), defBody (top 24), defScope (top 24), [], []⟩
def d_least_last : He.DefD := ⟨("least_last", none), "least_last", "least_last", defArgs (top 25), defBody (top 25), defScope (top 25), [], []⟩
def d__law_deck : He.DefD := ⟨("_law_deck", none), "_law_deck", "_law_deck", defArgs (top 29), defBody (top 29), defScope (top 29), [], []⟩
def d__law_draw : He.DefD := ⟨("_law_draw", none), "_law_draw", "_law_draw", defArgs (top 30), defBody (top 30), defScope (top 30), [], []⟩
def d__law_pick : He.DefD := ⟨("_law_pick", none), "_law_pick", "_law_pick", defArgs (top 31), defBody (top 31), defScope (top 31), [], []⟩
def d__law_names : He.DefD := ⟨("_law_names", none), "_law_names", "_law_names", defArgs (top 32), defBody (top 32), defScope (top 32), [], []⟩
def d__law_ways : He.DefD := ⟨("_law_ways", none), "_law_ways", "_law_ways", defArgs (top 33), defBody (top 33), defScope (top 33), [], []⟩
def d__law_first : He.DefD := ⟨("_law_first", none), "_law_first", "_law_first", defArgs (top 34), defBody (top 34), defScope (top 34), [], []⟩
def d__law_wanted : He.DefD := ⟨("_law_wanted", none), "_law_wanted", "_law_wanted", defArgs (top 35), defBody (top 35), defScope (top 35), [], []⟩
def d__law_safe : He.DefD := ⟨("_law_safe", none), "_law_safe", "_law_safe", defArgs (top 36), defBody (top 36), defScope (top 36), [], []⟩
def d__law_wish : He.DefD := ⟨("_law_wish", none), "_law_wish", "_law_wish", defArgs (top 37), defBody (top 37), defScope (top 37), [], []⟩
def d__law_permits : He.DefD := ⟨("_law_permits", none), "_law_permits", "_law_permits", defArgs (top 38), defBody (top 38), defScope (top 38), [], []⟩
def d__law_right : He.DefD := ⟨("_law_right", none), "_law_right", "_law_right", defArgs (top 39), defBody (top 39), defScope (top 39), [], []⟩
def d_law : He.DefD := ⟨("law", none), "law", "law", defArgs (top 40), defBody (top 40), defScope (top 40), [], []⟩
def fn : List He.DefD := [d_is_integer, d_is_deeper, d_deeper, d_way_distance, d_ways, d_first, d_is_depth, d_is_change, d_Wish_init, d_Wish_wanted, d_is_enough, d_possible_lasts, d_least_last, d__law_deck, d__law_draw, d__law_pick, d__law_names, d__law_ways, d__law_first, d__law_wanted, d__law_safe, d__law_wish, d__law_permits, d__law_right, d_law]
theorem ok_is_integer {P : Program} {w : World} {K : PySem.W.Frag} {mg : Str → Option Value} {base : Heap} (G : GF K mg)  {f : Addr} {fd : FuncData} (F : FunD K d_is_integer.name d_is_integer.qual d_is_integer.params d_is_integer.body d_is_integer.scope (d_is_integer.dvs K) (d_is_integer.kws K) f fd) : FnOk P w K mg base (L2.CX P w) 1 f fd P_is_integer (spM K m_is_integer) :=
  fn_J F sc_is_integer fun cdv A outer s H E c => j_is_integer G  _ cdv A outer s H E c
theorem ok_is_deeper {P : Program} {w : World} {K : PySem.W.Frag} {mg : Str → Option Value} {base : Heap} (G : GF K mg)  {f : Addr} {fd : FuncData} (F : FunD K d_is_deeper.name d_is_deeper.qual d_is_deeper.params d_is_deeper.body d_is_deeper.scope (d_is_deeper.dvs K) (d_is_deeper.kws K) f fd) : FnOk P w K mg base (L2.CX P w) 1 f fd P_is_deeper (spM K m_is_deeper) :=
  fn_J F sc_is_deeper fun cdv A outer s H E c => j_is_deeper G  _ cdv A outer s H E c
theorem ok_deeper {P : Program} {w : World} {K : PySem.W.Frag} {mg : Str → Option Value} {base : Heap} (G : GF K mg) (F_is_deeper : Cal P w K mg base 1 "is_deeper" 2 [] m_is_deeper) {f : Addr} {fd : FuncData} (F : FunD K d_deeper.name d_deeper.qual d_deeper.params d_deeper.body d_deeper.scope (d_deeper.dvs K) (d_deeper.kws K) f fd) : FnOk P w K mg base (L2.CX P w) 2 f fd P_deeper (spM K m_deeper) :=
  fn_J F sc_deeper fun cdv A outer s H E c => j_deeper G F_is_deeper _ cdv A outer s H E c
theorem ok_way_distance {P : Program} {w : World} {K : PySem.W.Frag} {mg : Str → Option Value} {base : Heap} (G : GF K mg) (F_deeper : Cal P w K mg base 2 "deeper" 2 [] m_deeper) {f : Addr} {fd : FuncData} (F : FunD K d_way_distance.name d_way_distance.qual d_way_distance.params d_way_distance.body d_way_distance.scope (d_way_distance.dvs K) (d_way_distance.kws K) f fd) : FnOk P w K mg base (L2.CX P w) 3 f fd P_way_distance (spM K m_way_distance) :=
  fn_J F sc_way_distance fun cdv A outer s H E c => j_way_distance G F_deeper _ cdv A outer s H E c
theorem ok_ways {P : Program} {w : World} {K : PySem.W.Frag} {mg : Str → Option Value} {base : Heap} (G : GF K mg) (F_way_distance : Cal P w K mg base 3 "way_distance" 4 [] m_way_distance) {f : Addr} {fd : FuncData} (F : FunD K d_ways.name d_ways.qual d_ways.params d_ways.body d_ways.scope (d_ways.dvs K) (d_ways.kws K) f fd) : FnOk P w K mg base (L2.CX P w) 4 f fd P_ways (spM K m_ways) :=
  fn_J F sc_ways fun cdv A outer s H E c => j_ways G F_way_distance _ cdv A outer s H E c
theorem ok_first {P : Program} {w : World} {K : PySem.W.Frag} {mg : Str → Option Value} {base : Heap} (G : GF K mg) (F_ways : Cal P w K mg base 4 "ways" 2 [] m_ways) {f : Addr} {fd : FuncData} (F : FunD K d_first.name d_first.qual d_first.params d_first.body d_first.scope (d_first.dvs K) (d_first.kws K) f fd) : FnOk P w K mg base (L2.CX P w) 5 f fd P_first (spM K m_first) :=
  fn_J F sc_first fun cdv A outer s H E c => j_first G F_ways _ cdv A outer s H E c
theorem ok_is_depth {P : Program} {w : World} {K : PySem.W.Frag} {mg : Str → Option Value} {base : Heap} (G : GF K mg) (F_is_integer : Cal P w K mg base 1 "is_integer" 1 [] m_is_integer) {f : Addr} {fd : FuncData} (F : FunD K d_is_depth.name d_is_depth.qual d_is_depth.params d_is_depth.body d_is_depth.scope (d_is_depth.dvs K) (d_is_depth.kws K) f fd) : FnOk P w K mg base (L2.CX P w) 2 f fd P_is_depth (spM K m_is_depth) :=
  fn_J F sc_is_depth fun cdv A outer s H E c => j_is_depth G F_is_integer _ cdv A outer s H E c
theorem ok_is_change {P : Program} {w : World} {K : PySem.W.Frag} {mg : Str → Option Value} {base : Heap} (G : GF K mg)  {f : Addr} {fd : FuncData} (F : FunD K d_is_change.name d_is_change.qual d_is_change.params d_is_change.body d_is_change.scope (d_is_change.dvs K) (d_is_change.kws K) f fd) : FnOk P w K mg base (L2.CX P w) 1 f fd P_is_change (spM K m_is_change) :=
  fn_J F sc_is_change fun cdv A outer s H E c => j_is_change G  _ cdv A outer s H E c
theorem ok_Wish_init {P : Program} {w : World} {K : PySem.W.Frag} {mg : Str → Option Value} {base : Heap} (G : GF K mg) (F_is_depth : Cal P w K mg base 2 "is_depth" 1 [] m_is_depth) {f : Addr} {fd : FuncData} (F : FunD K d_Wish_init.name d_Wish_init.qual d_Wish_init.params d_Wish_init.body d_Wish_init.scope (d_Wish_init.dvs K) (d_Wish_init.kws K) f fd) : FnOk P w K mg base (L2.CX P w) 3 f fd P_Wish_init (spM K m_Wish_init) :=
  fn_J F sc_Wish_init fun cdv A outer s H E c => j_Wish_init G F_is_depth _ cdv A outer s H E c
theorem ok_Wish_wanted {P : Program} {w : World} {K : PySem.W.Frag} {mg : Str → Option Value} {base : Heap} (G : GF K mg) (F_deeper : Cal P w K mg base 2 "deeper" 2 [] m_deeper) {f : Addr} {fd : FuncData} (F : FunD K d_Wish_wanted.name d_Wish_wanted.qual d_Wish_wanted.params d_Wish_wanted.body d_Wish_wanted.scope (d_Wish_wanted.dvs K) (d_Wish_wanted.kws K) f fd) : FnOk P w K mg base (L2.CX P w) 3 f fd P_Wish_wanted (spM K m_Wish_wanted) :=
  fn_J F sc_Wish_wanted fun cdv A outer s H E c => j_Wish_wanted G F_deeper _ cdv A outer s H E c
theorem ok_is_enough {P : Program} {w : World} {K : PySem.W.Frag} {mg : Str → Option Value} {base : Heap} (G : GF K mg) (F_first : Cal P w K mg base 5 "first" 2 [] m_first) (F_is_deeper : Cal P w K mg base 1 "is_deeper" 2 [] m_is_deeper) (F_Wish_wanted : Mth P w K mg base 3 "Wish" "wanted" 1 [] m_Wish_wanted) {f : Addr} {fd : FuncData} (F : FunD K d_is_enough.name d_is_enough.qual d_is_enough.params d_is_enough.body d_is_enough.scope (d_is_enough.dvs K) (d_is_enough.kws K) f fd) : FnOk P w K mg base (L2.CX P w) 6 f fd P_is_enough (spM K m_is_enough) :=
  fn_J F sc_is_enough fun cdv A outer s H E c => j_is_enough G F_first F_is_deeper F_Wish_wanted _ cdv A outer s H E c
theorem ok_possible_lasts {P : Program} {w : World} {K : PySem.W.Frag} {mg : Str → Option Value} {base : Heap} (G : GF K mg)  {f : Addr} {fd : FuncData} (F : FunD K d_possible_lasts.name d_possible_lasts.qual d_possible_lasts.params d_possible_lasts.body d_possible_lasts.scope (d_possible_lasts.dvs K) (d_possible_lasts.kws K) f fd) : FnOk P w K mg base (L2.CX P w) 1 f fd P_possible_lasts (spM K m_possible_lasts) :=
  fn_J F sc_possible_lasts fun cdv A outer s H E c => j_possible_lasts G  _ cdv A outer s H E c
theorem ok_least_last {P : Program} {w : World} {K : PySem.W.Frag} {mg : Str → Option Value} {base : Heap} (G : GF K mg) (F_is_change : Cal P w K mg base 1 "is_change" 1 [] m_is_change) (F_possible_lasts : Cal P w K mg base 1 "possible_lasts" 1 [] m_possible_lasts) (F_is_enough : Cal P w K mg base 6 "is_enough" 2 [] m_is_enough) {f : Addr} {fd : FuncData} (F : FunD K d_least_last.name d_least_last.qual d_least_last.params d_least_last.body d_least_last.scope (d_least_last.dvs K) (d_least_last.kws K) f fd) : FnOk P w K mg base (L2.CX P w) 7 f fd P_least_last (spM K m_least_last) :=
  fn_J F sc_least_last fun cdv A outer s H E c => j_least_last G F_is_change F_possible_lasts F_is_enough _ cdv A outer s H E c
theorem ok__law_deck {P : Program} {w : World} {K : PySem.W.Frag} {mg : Str → Option Value} {base : Heap} (G : GF K mg)  {f : Addr} {fd : FuncData} (F : FunD K d__law_deck.name d__law_deck.qual d__law_deck.params d__law_deck.body d__law_deck.scope (d__law_deck.dvs K) (d__law_deck.kws K) f fd) : FnOk P w K mg base (L2.CX P w) 1 f fd P__law_deck (spM K m__law_deck) :=
  fn_J F sc__law_deck fun cdv A outer s H E c => j__law_deck G  _ cdv A outer s H E c
theorem ok__law_draw {P : Program} {w : World} {K : PySem.W.Frag} {mg : Str → Option Value} {base : Heap} (G : GF K mg)  {f : Addr} {fd : FuncData} (F : FunD K d__law_draw.name d__law_draw.qual d__law_draw.params d__law_draw.body d__law_draw.scope (d__law_draw.dvs K) (d__law_draw.kws K) f fd) : FnOk P w K mg base (L2.CX P w) 1 f fd P__law_draw (spM K m__law_draw) :=
  fn_J F sc__law_draw fun cdv A outer s H E c => j__law_draw G  _ cdv A outer s H E c
theorem ok__law_pick {P : Program} {w : World} {K : PySem.W.Frag} {mg : Str → Option Value} {base : Heap} (G : GF K mg) (F__law_draw : Cal P w K mg base 1 "_law_draw" 2 [] m__law_draw) {f : Addr} {fd : FuncData} (F : FunD K d__law_pick.name d__law_pick.qual d__law_pick.params d__law_pick.body d__law_pick.scope (d__law_pick.dvs K) (d__law_pick.kws K) f fd) : FnOk P w K mg base (L2.CX P w) 2 f fd P__law_pick (spM K m__law_pick) :=
  fn_J F sc__law_pick fun cdv A outer s H E c => j__law_pick G F__law_draw _ cdv A outer s H E c
theorem ok__law_names {P : Program} {w : World} {K : PySem.W.Frag} {mg : Str → Option Value} {base : Heap} (G : GF K mg)  {f : Addr} {fd : FuncData} (F : FunD K d__law_names.name d__law_names.qual d__law_names.params d__law_names.body d__law_names.scope (d__law_names.dvs K) (d__law_names.kws K) f fd) : FnOk P w K mg base (L2.CX P w) 1 f fd P__law_names (spM K m__law_names) :=
  fn_J F sc__law_names fun cdv A outer s H E c => j__law_names G  _ cdv A outer s H E c
theorem ok__law_ways {P : Program} {w : World} {K : PySem.W.Frag} {mg : Str → Option Value} {base : Heap} (G : GF K mg)  {f : Addr} {fd : FuncData} (F : FunD K d__law_ways.name d__law_ways.qual d__law_ways.params d__law_ways.body d__law_ways.scope (d__law_ways.dvs K) (d__law_ways.kws K) f fd) : FnOk P w K mg base (L2.CX P w) 1 f fd P__law_ways (spM K m__law_ways) :=
  fn_J F sc__law_ways fun cdv A outer s H E c => j__law_ways G  _ cdv A outer s H E c
theorem ok__law_first {P : Program} {w : World} {K : PySem.W.Frag} {mg : Str → Option Value} {base : Heap} (G : GF K mg) (F__law_ways : Cal P w K mg base 1 "_law_ways" 1 [] m__law_ways) {f : Addr} {fd : FuncData} (F : FunD K d__law_first.name d__law_first.qual d__law_first.params d__law_first.body d__law_first.scope (d__law_first.dvs K) (d__law_first.kws K) f fd) : FnOk P w K mg base (L2.CX P w) 2 f fd P__law_first (spM K m__law_first) :=
  fn_J F sc__law_first fun cdv A outer s H E c => j__law_first G F__law_ways _ cdv A outer s H E c
theorem ok__law_wanted {P : Program} {w : World} {K : PySem.W.Frag} {mg : Str → Option Value} {base : Heap} (G : GF K mg)  {f : Addr} {fd : FuncData} (F : FunD K d__law_wanted.name d__law_wanted.qual d__law_wanted.params d__law_wanted.body d__law_wanted.scope (d__law_wanted.dvs K) (d__law_wanted.kws K) f fd) : FnOk P w K mg base (L2.CX P w) 1 f fd P__law_wanted (spM K m__law_wanted) :=
  fn_J F sc__law_wanted fun cdv A outer s H E c => j__law_wanted G  _ cdv A outer s H E c
theorem ok__law_safe {P : Program} {w : World} {K : PySem.W.Frag} {mg : Str → Option Value} {base : Heap} (G : GF K mg) (F__law_names : Cal P w K mg base 1 "_law_names" 0 [] m__law_names) (F__law_first : Cal P w K mg base 2 "_law_first" 2 [] m__law_first) (F__law_wanted : Cal P w K mg base 1 "_law_wanted" 3 [] m__law_wanted) {f : Addr} {fd : FuncData} (F : FunD K d__law_safe.name d__law_safe.qual d__law_safe.params d__law_safe.body d__law_safe.scope (d__law_safe.dvs K) (d__law_safe.kws K) f fd) : FnOk P w K mg base (L2.CX P w) 3 f fd P__law_safe (spM K m__law_safe) :=
  fn_J F sc__law_safe fun cdv A outer s H E c => j__law_safe G F__law_names F__law_first F__law_wanted _ cdv A outer s H E c
theorem ok__law_wish {P : Program} {w : World} {K : PySem.W.Frag} {mg : Str → Option Value} {base : Heap} (G : GF K mg) (F__law_draw : Cal P w K mg base 1 "_law_draw" 2 [] m__law_draw) (F__law_pick : Cal P w K mg base 2 "_law_pick" 2 [] m__law_pick) {f : Addr} {fd : FuncData} (F : FunD K d__law_wish.name d__law_wish.qual d__law_wish.params d__law_wish.body d__law_wish.scope (d__law_wish.dvs K) (d__law_wish.kws K) f fd) : FnOk P w K mg base (L2.CX P w) 3 f fd P__law_wish (spM K m__law_wish) :=
  fn_J F sc__law_wish fun cdv A outer s H E c => j__law_wish G F__law_draw F__law_pick _ cdv A outer s H E c
theorem ok__law_permits {P : Program} {w : World} {K : PySem.W.Frag} {mg : Str → Option Value} {base : Heap} (G : GF K mg) (F__law_names : Cal P w K mg base 1 "_law_names" 0 [] m__law_names) {f : Addr} {fd : FuncData} (F : FunD K d__law_permits.name d__law_permits.qual d__law_permits.params d__law_permits.body d__law_permits.scope (d__law_permits.dvs K) (d__law_permits.kws K) f fd) : FnOk P w K mg base (L2.CX P w) 2 f fd P__law_permits (spM K m__law_permits) :=
  fn_J F sc__law_permits fun cdv A outer s H E c => j__law_permits G F__law_names _ cdv A outer s H E c
theorem ok__law_right {P : Program} {w : World} {K : PySem.W.Frag} {mg : Str → Option Value} {base : Heap} (G : GF K mg) (F__law_safe : Cal P w K mg base 3 "_law_safe" 3 [] m__law_safe) (F__law_permits : Cal P w K mg base 2 "_law_permits" 2 [] m__law_permits) {f : Addr} {fd : FuncData} (F : FunD K d__law_right.name d__law_right.qual d__law_right.params d__law_right.body d__law_right.scope (d__law_right.dvs K) (d__law_right.kws K) f fd) : FnOk P w K mg base (L2.CX P w) 4 f fd P__law_right (spM K m__law_right) :=
  fn_J F sc__law_right fun cdv A outer s H E c => j__law_right G F__law_safe F__law_permits _ cdv A outer s H E c
theorem ok_law {P : Program} {w : World} {K : PySem.W.Frag} {mg : Str → Option Value} {base : Heap} (G : GF K mg) (F__law_deck : Cal P w K mg base 1 "_law_deck" 2 [] m__law_deck) (F__law_wish : Cal P w K mg base 3 "_law_wish" 1 [] m__law_wish) (F__law_draw : Cal P w K mg base 1 "_law_draw" 2 [] m__law_draw) (F__law_names : Cal P w K mg base 1 "_law_names" 0 [] m__law_names) (F__law_wanted : Cal P w K mg base 1 "_law_wanted" 3 [] m__law_wanted) (F_Wish_K : Mkr P w K mg base 3 "Wish" 0 ["back", "ahead"] m_Wish_init_K) (F_least_last : Cal P w K mg base 7 "least_last" 2 [] m_least_last) (F__law_right : Cal P w K mg base 4 "_law_right" 4 [] m__law_right) (F_Wish_Z : Mkr P w K mg base 3 "Wish" 0 [] m_Wish_init_Z) {f : Addr} {fd : FuncData} (F : FunD K d_law.name d_law.qual d_law.params d_law.body d_law.scope (d_law.dvs K) (d_law.kws K) f fd) : FnOk P w K mg base (L2.CX P w) 8 f fd P_law (spM K m_law) :=
  fn_J F sc_law fun cdv A outer s H E c => j_law G F__law_deck F__law_wish F__law_draw F__law_names F__law_wanted F_Wish_K F_least_last F__law_right F_Wish_Z _ cdv A outer s H E c
def xb : List Xa := [.cst "AHEAD" k_AHEAD,
  .cst "BACK" k_BACK,
  .cst "CHANGES" k_CHANGES,
  .cst "EVER" k_EVER,
  .cst "WAYS" k_WAYS,
  .fa (.free "abs"),
  .fa (.free "all"),
  .fa (.free "any"),
  .fa (.free "bool"),
  .fa (.free "int"),
  .fa (.free "isinstance"),
  .fa (.free "len"),
  .fa (.free "list"),
  .fa (.free "max"),
  .fa (.free "min"),
  .fa (.free "range"),
  .fa (.free "sorted"),
  .fa (.free "str"),
  .fa (.free "sum"),
  .fa (.cls "Wish"),
  .fa (.noat "Wish" "ahead"),
  .fa (.noat "Wish" "back"),
  .fa (.glo "is_integer"),
  .fa (.glo "is_deeper"),
  .fa (.glo "deeper"),
  .fa (.glo "way_distance"),
  .fa (.glo "ways"),
  .fa (.glo "first"),
  .fa (.glo "is_depth"),
  .fa (.glo "is_change"),
  .fa (.mkr "Wish"),
  .fa (.glo "Wish"),
  .fa (.meth "Wish" "wanted"),
  .fa (.glo "is_enough"),
  .fa (.glo "possible_lasts"),
  .fa (.glo "least_last"),
  .fa (.glo "_law_deck"),
  .fa (.glo "_law_draw"),
  .fa (.glo "_law_pick"),
  .fa (.glo "_law_names"),
  .fa (.glo "_law_ways"),
  .fa (.glo "_law_first"),
  .fa (.glo "_law_wanted"),
  .fa (.glo "_law_safe"),
  .fa (.glo "_law_wish"),
  .fa (.glo "_law_permits"),
  .fa (.glo "_law_right"),
  .fa (.glo "law")]
def isO : List Str := []
def xa : List Xa := xb ++ (isT.map .kit ++ isO.map .ins)
theorem gf {K : PySem.W.Frag} {h : Heap} {mg : Str → Option Value} (X : K.In h) (Gm : h.Ns mainGlobals mg) (c : SaysM xa fn K) : GF K mg :=
  ⟨Xa.cst_ok X Gm (c.fact 0 (f := .cst "AHEAD" k_AHEAD) rfl),
  Xa.cst_ok X Gm (c.fact 1 (f := .cst "BACK" k_BACK) rfl),
  Xa.cst_ok X Gm (c.fact 2 (f := .cst "CHANGES" k_CHANGES) rfl),
  Xa.cst_ok X Gm (c.fact 3 (f := .cst "EVER" k_EVER) rfl),
  Xa.cst_ok X Gm (c.fact 4 (f := .cst "WAYS" k_WAYS) rfl),
  Xa.free_ok X Gm (c.fact 5 (f := .fa (.free "abs")) rfl),
  Xa.free_ok X Gm (c.fact 6 (f := .fa (.free "all")) rfl),
  Xa.free_ok X Gm (c.fact 7 (f := .fa (.free "any")) rfl),
  Xa.free_ok X Gm (c.fact 8 (f := .fa (.free "bool")) rfl),
  Xa.free_ok X Gm (c.fact 9 (f := .fa (.free "int")) rfl),
  Xa.free_ok X Gm (c.fact 10 (f := .fa (.free "isinstance")) rfl),
  Xa.free_ok X Gm (c.fact 11 (f := .fa (.free "len")) rfl),
  Xa.free_ok X Gm (c.fact 12 (f := .fa (.free "list")) rfl),
  Xa.free_ok X Gm (c.fact 13 (f := .fa (.free "max")) rfl),
  Xa.free_ok X Gm (c.fact 14 (f := .fa (.free "min")) rfl),
  Xa.free_ok X Gm (c.fact 15 (f := .fa (.free "range")) rfl),
  Xa.free_ok X Gm (c.fact 16 (f := .fa (.free "sorted")) rfl),
  Xa.free_ok X Gm (c.fact 17 (f := .fa (.free "str")) rfl),
  Xa.free_ok X Gm (c.fact 18 (f := .fa (.free "sum")) rfl),
  Xa.cls_ok (c.fact 19 (f := .fa (.cls "Wish")) rfl),
  Xa.noat_ok (c.fact 20 (f := .fa (.noat "Wish" "ahead")) rfl),
  Xa.noat_ok (c.fact 21 (f := .fa (.noat "Wish" "back")) rfl),
  isF_of (b := xb) (L := isO) c rfl (by decide +kernel)⟩
theorem facts {P : Program} {w : World} {K : PySem.W.Frag} {h : Heap} {mg : Str → Option Value} {fl : Addr} (X : K.In h) (Gm : h.Ns mainGlobals mg) (hfa : mg "law" = some (.ref fl)) (c : SaysM xa fn K) :
    ∃ fd : FuncData, (∀ (s : Shared) (v : Value), BindsTo s fd ⟨[v], []⟩ [("_law_script", v)]) ∧ ∀ base : Heap, K.In base → base.Ns mainGlobals mg → FnOk P w K mg base (L2.CX P w) 8 fl fd P_law (spM K m_law) := by
  have G := gf X Gm c
  obtain ⟨fd_is_integer, D_is_integer⟩ := c.def_ 0 (d := d_is_integer) rfl
  obtain ⟨fd_is_deeper, D_is_deeper⟩ := c.def_ 1 (d := d_is_deeper) rfl
  obtain ⟨fd_deeper, D_deeper⟩ := c.def_ 2 (d := d_deeper) rfl
  obtain ⟨fd_way_distance, D_way_distance⟩ := c.def_ 3 (d := d_way_distance) rfl
  obtain ⟨fd_ways, D_ways⟩ := c.def_ 4 (d := d_ways) rfl
  obtain ⟨fd_first, D_first⟩ := c.def_ 5 (d := d_first) rfl
  obtain ⟨fd_is_depth, D_is_depth⟩ := c.def_ 6 (d := d_is_depth) rfl
  obtain ⟨fd_is_change, D_is_change⟩ := c.def_ 7 (d := d_is_change) rfl
  obtain ⟨fd_Wish_init, D_Wish_init⟩ := c.def_ 8 (d := d_Wish_init) rfl
  obtain ⟨fd_Wish_wanted, D_Wish_wanted⟩ := c.def_ 9 (d := d_Wish_wanted) rfl
  obtain ⟨fd_is_enough, D_is_enough⟩ := c.def_ 10 (d := d_is_enough) rfl
  obtain ⟨fd_possible_lasts, D_possible_lasts⟩ := c.def_ 11 (d := d_possible_lasts) rfl
  obtain ⟨fd_least_last, D_least_last⟩ := c.def_ 12 (d := d_least_last) rfl
  obtain ⟨fd__law_deck, D__law_deck⟩ := c.def_ 13 (d := d__law_deck) rfl
  obtain ⟨fd__law_draw, D__law_draw⟩ := c.def_ 14 (d := d__law_draw) rfl
  obtain ⟨fd__law_pick, D__law_pick⟩ := c.def_ 15 (d := d__law_pick) rfl
  obtain ⟨fd__law_names, D__law_names⟩ := c.def_ 16 (d := d__law_names) rfl
  obtain ⟨fd__law_ways, D__law_ways⟩ := c.def_ 17 (d := d__law_ways) rfl
  obtain ⟨fd__law_first, D__law_first⟩ := c.def_ 18 (d := d__law_first) rfl
  obtain ⟨fd__law_wanted, D__law_wanted⟩ := c.def_ 19 (d := d__law_wanted) rfl
  obtain ⟨fd__law_safe, D__law_safe⟩ := c.def_ 20 (d := d__law_safe) rfl
  obtain ⟨fd__law_wish, D__law_wish⟩ := c.def_ 21 (d := d__law_wish) rfl
  obtain ⟨fd__law_permits, D__law_permits⟩ := c.def_ 22 (d := d__law_permits) rfl
  obtain ⟨fd__law_right, D__law_right⟩ := c.def_ 23 (d := d__law_right) rfl
  obtain ⟨fd_law, D_law⟩ := c.def_ 24 (d := d_law) rfl
  have e := hfa.symm.trans (Xa.glo_ok X Gm (c.fact 47 (f := .fa (.glo "law")) rfl))
  cases e
  have b := FunD.bindsA (ps := P_law) D_law fun _ _ _ _ _ _ us hl => match us, hl with | [_], _ => rfl
  refine ⟨fd_law, fun s v => b s [v] rfl, fun base _ _ => ?_⟩
  have F_is_integer : Cal P w K mg base 1 "is_integer" 1 [] m_is_integer := cal_of (b := ("is_integer", none)) rfl D_is_integer (ok_is_integer G  D_is_integer) (Xa.glo_ok X Gm (c.fact 22 (f := .fa (.glo "is_integer")) rfl)) rfl (fun _ _ _ _ _ _ us hl => match us, hl with | [a0], _ => rfl)
  have F_is_deeper : Cal P w K mg base 1 "is_deeper" 2 [] m_is_deeper := cal_of (b := ("is_deeper", none)) rfl D_is_deeper (ok_is_deeper G  D_is_deeper) (Xa.glo_ok X Gm (c.fact 23 (f := .fa (.glo "is_deeper")) rfl)) rfl (fun _ _ _ _ _ _ us hl => match us, hl with | [a0, a1], _ => rfl)
  have F_deeper : Cal P w K mg base 2 "deeper" 2 [] m_deeper := cal_of (b := ("deeper", none)) rfl D_deeper (ok_deeper G F_is_deeper D_deeper) (Xa.glo_ok X Gm (c.fact 24 (f := .fa (.glo "deeper")) rfl)) rfl (fun _ _ _ _ _ _ us hl => match us, hl with | [a0, a1], _ => rfl)
  have F_way_distance : Cal P w K mg base 3 "way_distance" 4 [] m_way_distance := cal_of (b := ("way_distance", none)) rfl D_way_distance (ok_way_distance G F_deeper D_way_distance) (Xa.glo_ok X Gm (c.fact 25 (f := .fa (.glo "way_distance")) rfl)) rfl (fun _ _ _ _ _ _ us hl => match us, hl with | [a0, a1, a2, a3], _ => rfl)
  have F_ways : Cal P w K mg base 4 "ways" 2 [] m_ways := cal_of (b := ("ways", none)) rfl D_ways (ok_ways G F_way_distance D_ways) (Xa.glo_ok X Gm (c.fact 26 (f := .fa (.glo "ways")) rfl)) rfl (fun _ _ _ _ _ _ us hl => match us, hl with | [a0, a1], _ => rfl)
  have F_first : Cal P w K mg base 5 "first" 2 [] m_first := cal_of (b := ("first", none)) rfl D_first (ok_first G F_ways D_first) (Xa.glo_ok X Gm (c.fact 27 (f := .fa (.glo "first")) rfl)) rfl (fun _ _ _ _ _ _ us hl => match us, hl with | [a0, a1], _ => rfl)
  have F_is_depth : Cal P w K mg base 2 "is_depth" 1 [] m_is_depth := cal_of (b := ("is_depth", none)) rfl D_is_depth (ok_is_depth G F_is_integer D_is_depth) (Xa.glo_ok X Gm (c.fact 28 (f := .fa (.glo "is_depth")) rfl)) rfl (fun _ _ _ _ _ _ us hl => match us, hl with | [a0], _ => rfl)
  have F_is_change : Cal P w K mg base 1 "is_change" 1 [] m_is_change := cal_of (b := ("is_change", none)) rfl D_is_change (ok_is_change G  D_is_change) (Xa.glo_ok X Gm (c.fact 29 (f := .fa (.glo "is_change")) rfl)) rfl (fun _ _ _ _ _ _ us hl => match us, hl with | [a0], _ => rfl)
  have F_Wish_K : Mkr P w K mg base 3 "Wish" 0 ["back", "ahead"] m_Wish_init_K := mkr_all D_Wish_init (ok_Wish_init G F_is_depth D_Wish_init) rfl (Xa.glo_ok X Gm (c.fact 31 (f := .fa (.glo "Wish")) rfl)) (Xa.mkr_ok (c.fact 30 (f := .fa (.mkr "Wish")) rfl)) (by simp [He.DefD.kws, d_Wish_init]) (fun _ _ _ _ _ _ us mv ws h1 h2 h3 => match us, mv, ws, h1, h2, h3 with | [a0], [], [b0, b1], _, _, _ => rfl)
  have F_Wish_Z : Mkr P w K mg base 3 "Wish" 0 [] m_Wish_init_Z := mkr_none (dds := [.int 0, .int 0]) D_Wish_init (ok_Wish_init G F_is_depth D_Wish_init) rfl (Xa.glo_ok X Gm (c.fact 31 (f := .fa (.glo "Wish")) rfl)) (Xa.mkr_ok (c.fact 30 (f := .fa (.mkr "Wish")) rfl)) (by simp [He.DefD.kws, d_Wish_init]) (fun W => by first | exact ⟨_, _, rfl, .inr rfl, _, _, rfl, .inr rfl, rfl⟩ | exact ⟨_, _, rfl, .inr rfl, rfl⟩) (fun _ _ _ _ _ _ us mv ws h1 h2 h3 => match us, mv, ws, h1, h2, h3 with | [a0], [b0, b1], [], _, _, _ => ⟨_, _, _, _, _, _, rfl, rfl, ⟨_, _, _, _, _, _, rfl, rfl, rfl⟩⟩)
  have F_Wish_wanted : Mth P w K mg base 3 "Wish" "wanted" 1 [] m_Wish_wanted := mth_of (b := "wanted") rfl D_Wish_wanted (ok_Wish_wanted G F_deeper D_Wish_wanted) (Xa.cls_ok (c.fact 19 (f := .fa (.cls "Wish")) rfl)) (Xa.meth_ok (c.fact 32 (f := .fa (.meth "Wish" "wanted")) rfl)) rfl (fun _ _ _ _ _ _ us hl => match us, hl with | [a0, a1], _ => rfl)
  have F_is_enough : Cal P w K mg base 6 "is_enough" 2 [] m_is_enough := cal_of (b := ("is_enough", none)) rfl D_is_enough (ok_is_enough G F_first F_is_deeper F_Wish_wanted D_is_enough) (Xa.glo_ok X Gm (c.fact 33 (f := .fa (.glo "is_enough")) rfl)) rfl (fun _ _ _ _ _ _ us hl => match us, hl with | [a0, a1], _ => rfl)
  have F_possible_lasts : Cal P w K mg base 1 "possible_lasts" 1 [] m_possible_lasts := cal_of (b := ("possible_lasts", none)) rfl D_possible_lasts (ok_possible_lasts G  D_possible_lasts) (Xa.glo_ok X Gm (c.fact 34 (f := .fa (.glo "possible_lasts")) rfl)) rfl (fun _ _ _ _ _ _ us hl => match us, hl with | [a0], _ => rfl)
  have F_least_last : Cal P w K mg base 7 "least_last" 2 [] m_least_last := cal_of (b := ("least_last", none)) rfl D_least_last (ok_least_last G F_is_change F_possible_lasts F_is_enough D_least_last) (Xa.glo_ok X Gm (c.fact 35 (f := .fa (.glo "least_last")) rfl)) rfl (fun _ _ _ _ _ _ us hl => match us, hl with | [a0, a1], _ => rfl)
  have F__law_deck : Cal P w K mg base 1 "_law_deck" 2 [] m__law_deck := cal_of (b := ("_law_deck", none)) rfl D__law_deck (ok__law_deck G  D__law_deck) (Xa.glo_ok X Gm (c.fact 36 (f := .fa (.glo "_law_deck")) rfl)) rfl (fun _ _ _ _ _ _ us hl => match us, hl with | [a0, a1], _ => rfl)
  have F__law_draw : Cal P w K mg base 1 "_law_draw" 2 [] m__law_draw := cal_of (b := ("_law_draw", none)) rfl D__law_draw (ok__law_draw G  D__law_draw) (Xa.glo_ok X Gm (c.fact 37 (f := .fa (.glo "_law_draw")) rfl)) rfl (fun _ _ _ _ _ _ us hl => match us, hl with | [a0, a1], _ => rfl)
  have F__law_pick : Cal P w K mg base 2 "_law_pick" 2 [] m__law_pick := cal_of (b := ("_law_pick", none)) rfl D__law_pick (ok__law_pick G F__law_draw D__law_pick) (Xa.glo_ok X Gm (c.fact 38 (f := .fa (.glo "_law_pick")) rfl)) rfl (fun _ _ _ _ _ _ us hl => match us, hl with | [a0, a1], _ => rfl)
  have F__law_names : Cal P w K mg base 1 "_law_names" 0 [] m__law_names := cal_of (b := ("_law_names", none)) rfl D__law_names (ok__law_names G  D__law_names) (Xa.glo_ok X Gm (c.fact 39 (f := .fa (.glo "_law_names")) rfl)) rfl (fun _ _ _ _ _ _ us hl => match us, hl with | [], _ => rfl)
  have F__law_ways : Cal P w K mg base 1 "_law_ways" 1 [] m__law_ways := cal_of (b := ("_law_ways", none)) rfl D__law_ways (ok__law_ways G  D__law_ways) (Xa.glo_ok X Gm (c.fact 40 (f := .fa (.glo "_law_ways")) rfl)) rfl (fun _ _ _ _ _ _ us hl => match us, hl with | [a0], _ => rfl)
  have F__law_first : Cal P w K mg base 2 "_law_first" 2 [] m__law_first := cal_of (b := ("_law_first", none)) rfl D__law_first (ok__law_first G F__law_ways D__law_first) (Xa.glo_ok X Gm (c.fact 41 (f := .fa (.glo "_law_first")) rfl)) rfl (fun _ _ _ _ _ _ us hl => match us, hl with | [a0, a1], _ => rfl)
  have F__law_wanted : Cal P w K mg base 1 "_law_wanted" 3 [] m__law_wanted := cal_of (b := ("_law_wanted", none)) rfl D__law_wanted (ok__law_wanted G  D__law_wanted) (Xa.glo_ok X Gm (c.fact 42 (f := .fa (.glo "_law_wanted")) rfl)) rfl (fun _ _ _ _ _ _ us hl => match us, hl with | [a0, a1, a2], _ => rfl)
  have F__law_safe : Cal P w K mg base 3 "_law_safe" 3 [] m__law_safe := cal_of (b := ("_law_safe", none)) rfl D__law_safe (ok__law_safe G F__law_names F__law_first F__law_wanted D__law_safe) (Xa.glo_ok X Gm (c.fact 43 (f := .fa (.glo "_law_safe")) rfl)) rfl (fun _ _ _ _ _ _ us hl => match us, hl with | [a0, a1, a2], _ => rfl)
  have F__law_wish : Cal P w K mg base 3 "_law_wish" 1 [] m__law_wish := cal_of (b := ("_law_wish", none)) rfl D__law_wish (ok__law_wish G F__law_draw F__law_pick D__law_wish) (Xa.glo_ok X Gm (c.fact 44 (f := .fa (.glo "_law_wish")) rfl)) rfl (fun _ _ _ _ _ _ us hl => match us, hl with | [a0], _ => rfl)
  have F__law_permits : Cal P w K mg base 2 "_law_permits" 2 [] m__law_permits := cal_of (b := ("_law_permits", none)) rfl D__law_permits (ok__law_permits G F__law_names D__law_permits) (Xa.glo_ok X Gm (c.fact 45 (f := .fa (.glo "_law_permits")) rfl)) rfl (fun _ _ _ _ _ _ us hl => match us, hl with | [a0, a1], _ => rfl)
  have F__law_right : Cal P w K mg base 4 "_law_right" 4 [] m__law_right := cal_of (b := ("_law_right", none)) rfl D__law_right (ok__law_right G F__law_safe F__law_permits D__law_right) (Xa.glo_ok X Gm (c.fact 46 (f := .fa (.glo "_law_right")) rfl)) rfl (fun _ _ _ _ _ _ us hl => match us, hl with | [a0, a1, a2, a3], _ => rfl)
  exact ok_law G F__law_deck F__law_wish F__law_draw F__law_names F__law_wanted F_Wish_K F_least_last F__law_right F_Wish_Z D_law
abbrev R : PySem.W.OpenRow := PySem.W.OpenLaw.row PySem.Challenge.rw_letineditions_k70_least_number_of_editio
abbrev hk : PySem.W.Hook := hookM xa fn
def ob (s : PySem.W.SharedT) : He.AlD := obsMG xa fn (HandSHeadRun.getT s)
theorem ob_eq (s : PySem.W.SharedT) : ob s = hk.obs s.abs := obsMG_eq (HandSHeadRun.getT_eq s)
def nm0 : List Str := ["_wall", "is_integer", "CHANGES", "BACK", "AHEAD", "EditionsError", "WrongRule", "WrongWish", "EVER", "WAYS", "is_deeper", "deeper", "shallower", "way_distance", "ways", "first", "is_depth", "is_change", "is_enough", "possible_lasts"]
def nm1 : List Str := ["least_last", "Wish", "_law_deck", "_law_draw", "_law_pick", "_law_names", "_law_ways", "_law_first", "_law_wanted", "_law_safe", "_law_wish", "_law_permits", "_law_right"]
def names : List Str := nm0 ++ nm1
end JK
namespace JK
open PySem PySem.Spec L2 JL
inductive Wo where
  | fin (n : Int)
  | ever
  deriving DecidableEq
def wD : Wo → Dat
  | .fin n => .int n
  | .ever => .str "ever"
def wgt : Wo → Wo → Bool
  | .ever, .fin _ => true
  | .ever, .ever => false
  | .fin _, .ever => false
  | .fin i, .fin j => decide (j < i)
@[simp] theorem nc_wD {a : Wo} : nc (wD a) = true := by cases a <;> rfl
@[simp] theorem k_EVER_s : k_EVER = .str "ever" := rfl
theorem take_all {S : Sto} : S.take S.length = S := List.take_length
theorem is_deeper_eq {a b : Wo} {S : Sto} : m_is_deeper [wD a, wD b] S = .ok (.bl (wgt a b)) S := by
  cases a <;> cases b <;> exact mDef_rt rfl rfl rfl take_all
def wmax (a b : Wo) : Wo := if wgt a b = true then a else b
theorem deeper_eq {a b : Wo} {S : Sto} : m_deeper [wD a, wD b] S = .ok (wD (wmax a b)) S := by
  refine mDef_rt rfl ?_ nc_wD take_all
  simp [s_deeper, is_deeper_eq]
  unfold wmax
  split <;> simp_all
def nms : List Str := ["add", "offer", "drop", "retire", "need", "ease", "preset", "widen", "narrow", "recode", "swap", "reuse", "move"]
def nmsD (f : Str → Wo) : Dat := .dct (nms.map fun x => (.inr x, wD (f x)))
theorem get_eq {f : Str → Wo} {x : Str} {S : Sto} (h : x ∈ nms) : dGet (nmsD f) (.str x) S = .ok (wD (f x)) S := by
  rw [dGet_s]
  show (match dLook (nms.map fun x => (Sum.inr x, wD (f x))) (.inr x) with
    | some d => Out.ok d S
    | none => .stk) = _
  rw [dLook_map (f := fun x => wD (f x)) h]
def isZ : Wo → Bool
  | .fin n => decide (n = 0)
  | .ever => false
theorem eq0 {a : Wo} {S : Sto} : dEqP (wD a) (.int 0) S = .ok (.bl (isZ a)) S := by cases a <;> rfl
theorem ne0 {a : Wo} {S : Sto} : dNeP (wD a) (.int 0) S = .ok (.bl (!isZ a)) S := by cases a <;> rfl
def isE : Wo → Bool
  | .fin _ => false
  | .ever => true
theorem eqE {a : Wo} {S : Sto} : dEqP (wD a) (.str "ever") S = .ok (.bl (isE a)) S := by cases a <;> rfl
def oD : Option Int → Dat
  | none => .non
  | some i => .int i
def wdW (f : Str → Wo) (two : Bool) : List Str → Int → Option Int
  | [], t => some t
  | w :: ws, t => match f w with
    | .ever => none
    | .fin n => if (two && decide (n = 0)) = true then none else wdW f two ws (t + n)
def wd (f : Str → Wo) (v : Int) (steps waits : List Str) : Option Int := if steps.any (fun s => !isZ (f s)) = true then none else (wdW f (decide ((waits.length : Int) = 2)) waits 0).map fun t => (if t < v then v else t) + 1
def strD (l : List Str) : List Dat := l.map .str
theorem strD_len {l : List Str} : (strD l).length = l.length := List.length_map ..
theorem strD_mem {l : List Str} {d : Dat} (h : d ∈ strD l) : ∃ x ∈ l, d = .str x := by
  obtain ⟨x, h1, h2⟩ := List.mem_map.mp h
  exact ⟨x, h1, h2.symm⟩
def strO : Dat → Str
  | .str x => x
  | _ => Str.empty
theorem way_loop {f : Str → Wo} {x : Str} {steps waits : List Dat} {S : Sto} {w2 : Bool} (hw : w2 = decide ((waits.length : Int) = 2)) : ∀ {ws : List Str} {t : Int} {o : Option Dat}, (∀ w ∈ ws, w ∈ nms) →
    (∃ o', forL (gN 5) b_way_distance_1 (strD ws) [some (nmsD f), some (.str x), some (.tup steps), some (.tup waits), some (.int t), o, none] S = match wdW f w2 ws t with
        | some r => .nx [some (nmsD f), some (.str x), some (.tup steps), some (.tup waits), some (.int r), o', none] S
        | none => .rt .non S)
  | [], t, o, _ => ⟨o, rfl⟩
  | w :: ws, t, o, h => by
    have hg := get_eq (f := f) (S := S) (h w List.mem_cons_self)
    unfold wdW
    simp only [strD, List.map_cons]
    cases hf : f w with
    | ever =>
      rw [hf] at hg
      exact ⟨none, forL_rt rfl (by simp [b_way_distance_1, hg, wD])⟩
    | fin n =>
      rw [hf] at hg
      obtain ⟨o', ih⟩ := way_loop (f := f) (x := x) (steps := steps) (waits := waits) (S := S) hw (ws := ws) (t := t + n) (o := some (.str w)) fun y hy => h y (List.mem_cons_of_mem _ hy)
      refine ⟨o', ?_⟩
      simp only
      by_cases h2 : (w2 && decide (n = 0)) = true
      · rw [if_pos h2]
        refine forL_rt rfl ?_
        rw [Bool.and_eq_true, decide_eq_true_iff] at h2
        obtain ⟨h3, h4⟩ := h2
        subst h3 h4
        simp [b_way_distance_1, hg, wD, ← hw]
      · rw [if_neg h2]
        refine (forL_nx rfl ?_).trans ih
        cases w2 with
        | false => simp [b_way_distance_1, hg, wD, ← hw]
        | true =>
          have hn : ¬ n = 0 := by simpa using h2
          simp [b_way_distance_1, hg, wD, ← hw, hn]
theorem way_eq {f : Str → Wo} {x : Str} {steps waits : List Str} {v : Int} {S : Sto} (hx : x ∈ nms) (hv : f x = .fin v) (h1 : ∀ w ∈ steps, w ∈ nms) (h2 : ∀ w ∈ waits, w ∈ nms) (hl : steps.length ≤ 1000) :
    m_way_distance [nmsD f, .str x, .tup (strD steps), .tup (strD waits)] S = .ok (oD (wd f v steps waits)) S := by
  have hg := get_eq (f := f) (S := S) hx
  rw [hv] at hg
  have hlc : lcL (gN 6) tYesM (mBin dNeP (mBin dGet (mVar 0) (mVar 6)) (mC (.int 0))) [some (nmsD f), some (Dat.str x), some (.tup (strD steps)), some (.tup (strD waits)), none, none, none] (strD steps) S = .ok ((strD steps).map fun d => .bl (!isZ (f (strO d)))) S := by
    refine lcL_map fun d hd => ?_
    obtain ⟨y, hy, rfl⟩ := strD_mem hd
    exact ⟨_, rfl, by simp [get_eq (h1 y hy), ne0, strO], rfl⟩
  obtain ⟨o', hw⟩ := way_loop (f := f) (x := x) (steps := strD steps) (waits := strD waits) (S := S) (w2 := decide ((waits.length : Int) = 2)) (by rw [strD_len]) (ws := waits) (t := 0) (o := none) h2
  have hl2 : (strD steps).length ≤ 100000 := by rw [strD_len]; omega
  have ha : (((strD steps).map fun d => !isZ (f (strO d))).any id) = steps.any fun s => !isZ (f s) := by
    unfold strD
    rw [List.map_map, List.any_map]
    rfl
  have hmx : ∀ t : Int, m_deeper [.int v, .int t] S = .ok (.int (if t < v then v else t)) S := fun t => by
    have h := deeper_eq (a := .fin v) (b := .fin t) (S := S)
    unfold wmax wgt at h
    rw [show (wD (.fin v)) = .int v from rfl, show wD (.fin t) = .int t from rfl] at h
    rw [h]
    by_cases ht : t < v <;> simp [ht, wD]
  unfold wd
  by_cases hs : (steps.any fun s => !isZ (f s)) = true
  · rw [if_pos hs]
    refine mDef_rt (S1 := S) rfl ?_ rfl take_all
    simp [s_way_distance, hlc, hl2, dAny, ha, hs, oD]
  · rw [if_neg hs]
    have hs' : (steps.any fun s => !isZ (f s)) = false := by simpa using hs
    cases hr : wdW f (decide ((waits.length : Int) = 2)) waits 0 with
    | none =>
      rw [hr] at hw
      refine mDef_rt (S1 := S) rfl ?_ rfl take_all
      simp [s_way_distance, hlc, hl2, dAny, ha, hs', oD, hw]
    | some r =>
      rw [hr] at hw
      refine mDef_rt (S1 := S) rfl ?_ rfl take_all
      simp [s_way_distance, hlc, hl2, dAny, ha, hs', oD, hw, hg, wD, hmx]
/-! ways -/
abbrev Way := List Str × List Str × List Str
def wayT (w : Way) : Dat := .tup [.tup (strD w.1), .tup (strD w.2.1), .tup (strD w.2.2)]
def waysL : List Way := [(["add"], ["offer", "need"], []), (["offer"], ["add", "ease"], []), (["drop"], ["ease", "retire"], []), (["retire"], ["need", "drop"], []), (["need"], ["retire", "add"], []), (["ease"], ["drop", "offer"], []), (["preset"], ["need", "ease"], []), (["preset"], ["retire", "offer"], []), (["preset"], ["retire", "add", "ease"], ["need", "offer"]), (["preset"], ["need", "drop", "offer"], ["retire", "ease"]), (["widen", "narrow"], ["recode"], []), (["widen", "narrow", "recode"], ["swap"], []), (["widen", "narrow", "recode", "swap"], ["drop", "add"], []), (["widen", "narrow", "recode"], ["retire", "offer"], []), (["swap"], ["retire", "offer"], ["preset"]), (["widen", "narrow", "recode", "swap"], ["drop", "offer"], ["ease"]), (["widen", "narrow", "recode", "swap"], ["retire", "add"], ["need"]), (["reuse", "move"], ["drop", "add"], []), (["reuse", "move"], ["drop", "offer"], []), (["reuse", "move"], ["retire", "add"], []), (["reuse", "move"], ["retire", "offer"], [])]
theorem k_WAYS_s : k_WAYS = .tup (waysL.map wayT) := rfl
def wayOk (w : Way) : Bool := (w.2.1.all fun x => decide (x ∈ nms)) && ((w.2.2.all fun x => decide (x ∈ nms)) && decide (w.2.1.length ≤ 1000))
def resW (f : Str → Wo) (v : Int) (x : Str) (ws : List Way) : List (List Str × Int) := ws.filterMap fun w => if x ∈ w.1 then (wd f v w.2.1 w.2.2).map fun d => (w.2.1, d) else none
def pairD (p : List Str × Int) : Dat := .tup [.tup (strD p.1), .int p.2]
theorem ways_loop {f : Str → Wo} {x : Str} {v : Int} {S : Sto} (hx : x ∈ nms) (hv : f x = .fin v) : ∀ {ws : List Way} {acc : List Dat} {o3 o4 o5 o6 : Option Dat}, (∀ w ∈ ws, wayOk w = true) → acc.length + ws.length ≤ 1000 →
    ∃ p3 p4 p5 p6, forL (gT (gC (gN 3) (gC (gN 4) (gC (gN 5) gZ)))) b_ways_1 (ws.map wayT) [some (nmsD f), some (.str x), some (.cell S.length), o3, o4, o5, o6] (S ++ [some (.lst acc)]) =
      .nx [some (nmsD f), some (.str x), some (.cell S.length), p3, p4, p5, p6] (S ++ [some (.lst (acc ++ (resW f v x ws).map pairD))])
  | [], acc, o3, o4, o5, o6, _, _ => ⟨o3, o4, o5, o6, by simp [resW]⟩
  | w :: ws, acc, o3, o4, o5, o6, h, hl => by
    have hw := h w List.mem_cons_self
    unfold wayOk at hw
    simp only [Bool.and_eq_true, List.all_eq_true, decide_eq_true_eq] at hw
    have hd := way_eq (S := S ++ [some (.lst acc)]) hx hv hw.1 hw.2.1 hw.2.2
    have hi : inP (.str x) (.tup (strD w.1)) (S ++ [some (.lst acc)]) = some (decide (x ∈ w.1)) := inP_strs rfl
    rw [List.length_cons] at hl
    have hl1 : acc.length < 100000 := by omega
    have hr : ws.all wayOk = true := List.all_eq_true.mpr fun y hy => h y (List.mem_cons_of_mem _ hy)
    unfold resW
    rw [List.map_cons, List.filterMap_cons]
    by_cases hx1 : x ∈ w.1
    · rw [if_pos hx1]
      cases hq : wd f v w.2.1 w.2.2 with
      | none =>
        rw [hq] at hd
        obtain ⟨p3, p4, p5, p6, ih⟩ := ways_loop (S := S) hx hv (ws := ws) (acc := acc) (o3 := some (.tup (strD w.1))) (o4 := some (.tup (strD w.2.1))) (o5 := some (.tup (strD w.2.2))) (o6 := some .non) (fun y hy => h y (List.mem_cons_of_mem _ hy)) (by omega)
        refine ⟨p3, p4, p5, p6, (forL_nx rfl ?_).trans ih⟩
        simp [b_ways_1, hi, hx1, hd, oD]
      | some d =>
        rw [hq] at hd
        obtain ⟨p3, p4, p5, p6, ih⟩ := ways_loop (S := S) hx hv (ws := ws) (acc := acc ++ [pairD (w.2.1, d)]) (o3 := some (.tup (strD w.1))) (o4 := some (.tup (strD w.2.1))) (o5 := some (.tup (strD w.2.2))) (o6 := some (.int d)) (fun y hy => h y (List.mem_cons_of_mem _ hy)) (by rw [List.length_append]; simp; omega)
        refine ⟨p3, p4, p5, p6, (forL_nx rfl ?_).trans (ih.trans ?_)⟩
        · simp [b_ways_1, hi, hx1, hd, oD, hl1, pairD]
        · simp [resW]
    · rw [if_neg hx1]
      obtain ⟨p3, p4, p5, p6, ih⟩ := ways_loop (S := S) hx hv (ws := ws) (acc := acc) (o3 := some (.tup (strD w.1))) (o4 := some (.tup (strD w.2.1))) (o5 := some (.tup (strD w.2.2))) (o6 := some .non) (fun y hy => h y (List.mem_cons_of_mem _ hy)) (by omega)
      refine ⟨p3, p4, p5, p6, (forL_nx rfl ?_).trans ih⟩
      simp [b_ways_1, hi, hx1]
def freeX : List Str := ["reuse", "move"]
def waysR (f : Str → Wo) (x : Str) : List (List Str × Int) := match f x with
  | .ever => []
  | .fin v => if v = 0 ∧ x ∉ freeX then [([], 1)] else resW f v x waysL
theorem ways_eq {f : Str → Wo} {x : Str} {S : Sto} (hx : x ∈ nms) : m_ways [nmsD f, .str x] S = .ok (.lst ((waysR f x).map pairD)) S := by
  have hg := get_eq (f := f) (S := S) hx
  have hi : inP (.str x) (.tup [.str "reuse", .str "move"]) S = some (decide (x ∈ freeX)) := inP_strs (l := freeX) rfl
  unfold waysR
  cases hv : f x with
  | ever =>
    rw [hv] at hg
    refine mDef_rt (S1 := S) rfl ?_ rfl take_all
    simp [s_ways, hg, wD]
  | fin v =>
    rw [hv] at hg
    by_cases h0 : v = 0 ∧ x ∉ freeX
    · rw [show (match Wo.fin v with
        | .ever => []
        | .fin v => if v = 0 ∧ x ∉ freeX then [([], 1)] else resW f v x waysL) = [([], 1)] from if_pos h0]
      refine mDef_rt (S1 := S) rfl ?_ rfl take_all
      simp [s_ways, hg, wD, hi, h0.1, h0.2, pairD, strD]
    · rw [show (match Wo.fin v with
        | .ever => []
        | .fin v => if v = 0 ∧ x ∉ freeX then [([], 1)] else resW f v x waysL) = resW f v x waysL from if_neg h0]
      obtain ⟨p3, p4, p5, p6, hw⟩ := ways_loop (S := S) hx hv (ws := waysL) (acc := []) (o3 := none) (o4 := none) (o5 := none) (o6 := none) (by decide +kernel) (by decide)
      refine mDef_rt (S1 := S ++ [none]) rfl ?_ rfl (by simp)
      by_cases h1 : v = 0
      · have h2 : x ∈ freeX := by
          by_cases h3 : x ∈ freeX
          · exact h3
          · exact absurd ⟨h1, h3⟩ h0
        subst h1
        simp [s_ways, hg, wD, hi, h2, k_WAYS_s]
        rw [hw]
        simp only
        rw [frz_last rfl]
        simp
      · simp [s_ways, hg, wD, h1, k_WAYS_s]
        rw [hw]
        simp only
        rw [frz_last rfl]
        simp
/-! first -/
def firstW (f : Str → Wo) (x : Str) : Option Int := if (waysR f x).isEmpty = true then none else some (minI ((waysR f x).map (·.2)))
theorem resW_len {f : Str → Wo} {v : Int} {x : Str} {ws : List Way} : (resW f v x ws).length ≤ ws.length := List.length_filterMap_le ..
theorem waysR_len {f : Str → Wo} {x : Str} : (waysR f x).length ≤ 100 := by
  unfold waysR
  split
  · simp
  · split
    · simp
    · exact Nat.le_trans resW_len (by decide)
def sndD : Dat → Dat
  | .tup [_, y] => y
  | d => d
theorem first_eq {f : Str → Wo} {x : Str} {S : Sto} (hx : x ∈ nms) : m_first [nmsD f, .str x] S = .ok (oD (firstW f x)) S := by
  have hw := ways_eq (f := f) (S := S) hx
  have hl := waysR_len (f := f) (x := x)
  have h1 : lcL (gN 3) tYesM (mB dInt (mCons (mBin dIx (mVar 3) (mC (.int 1))) mNil)) [some (nmsD f), some (.str x), none, none, none] ((waysR f x).map pairD) S = .ok (((waysR f x).map pairD).map sndD) S := by
    refine lcL_map fun d hd => ?_
    obtain ⟨y, hy, rfl⟩ := List.mem_map.mp hd
    refine ⟨_, rfl, ?_, rfl⟩
    simp [pairD, sndD, L2.atI, ixN]
  have h2 : ((waysR f x).map pairD).map sndD = ((waysR f x).map (·.2)).map fun i => Dat.int i := by
    rw [List.map_map, List.map_map]
    rfl
  have h3 : ∀ e : Option Dat, lcL (gN 4) tYesM (mB dInt (mCons (mVar 4) mNil)) [some (nmsD f), some (.str x), e, none, none] (((waysR f x).map (·.2)).map fun i => Dat.int i) S = .ok ((((waysR f x).map (·.2)).map fun i => Dat.int i).map id) S := fun e => by
    refine lcL_map fun d hd => ?_
    obtain ⟨y, hy, rfl⟩ := List.mem_map.mp hd
    exact ⟨_, rfl, by simp, rfl⟩
  rw [h2] at h1
  have hl1 : ((waysR f x).map pairD).length ≤ 100000 := by rw [List.length_map]; omega
  have hl2 : (((waysR f x).map (·.2)).map fun i => Dat.int i).length ≤ 100000 := by rw [List.length_map, List.length_map]; omega
  unfold firstW
  refine mDef_rt (S1 := S) rfl ?_ (by split <;> rfl) take_all
  have e1 : (sSet 2 (mLc (miE itP (mCall m_ways (mCons (mVar 0) (mCons (mVar 1) mNil)) mNil)) (gN 3) tYesM (mB dInt (mCons (mBin dIx (mVar 3) (mC (.int 1))) mNil)) [3])) [some (nmsD f), some (.str x), none, none, none] S = .nx [some (nmsD f), some (.str x), some (.lst (((waysR f x).map (·.2)).map fun i => Dat.int i)), none, none] S := by
    simp only [sSet_s, mLc_s, miE_s, mCall_s, mCons_s, mVar_s, mNil_s, List.getElem?_cons_zero, List.getElem?_cons_succ, bind_ok, List.append_nil, hw, itP_lst, hl1, if_true, wipeE_cons, wipeE_nil, List.set_cons_succ, List.set_cons_zero, h1, ofE_ok]
  show s_first [some (nmsD f), some (.str x), none, none, none] S = _
  unfold s_first
  rw [sSeq_s, e1]
  simp only [sRet_s, mIf_s, mTru_s, mVar_s, List.getElem?_cons_zero, List.getElem?_cons_succ, bind_ok, tru_lst, mB_s, mCons_s, mLc_s, miE_s, itP_lst, hl2, if_true, wipeE_cons, wipeE_nil, List.set_cons_succ, List.set_cons_zero, h3, mNil_s, List.map_id, dMin, dL1_s, lstOf_lst, Option.bind_some, mC_s]
  by_cases he : waysR f x = []
  · simp [he, oD]
  · have h4 : intsOf (((waysR f x).map (·.2)).map fun i => Dat.int i) = some ((waysR f x).map (·.2)) := by
      have := intsOf_map (f := fun i : Int => i) (l := (waysR f x).map (·.2))
      rw [this]
      simp
    rw [h4]
    simp [he, oD]
/-! wishes -/
def wishD (b a : Wo) : Dat := .ins "Wish" [("back", wD b), ("ahead", wD a)]
def backL : List Str := ["add", "need", "preset", "narrow", "recode", "swap", "reuse", "move"]
def aheadL : List Str := ["drop", "ease", "preset", "widen", "recode", "swap", "reuse", "move"]
def wantW (b a : Wo) (x : Str) : Wo := wmax (if x ∈ backL then b else .fin 0) (if x ∈ aheadL then a else .fin 0)
theorem wanted_eq {b a : Wo} {x : Str} {S : Sto} : m_Wish_wanted [wishD b a, .str x] S = .ok (wD (wantW b a x)) S := by
  have h1 : inP (.str x) k_BACK S = some (decide (x ∈ backL)) := inP_strs (l := backL) rfl
  have h2 : inP (.str x) k_AHEAD S = some (decide (x ∈ aheadL)) := inP_strs (l := aheadL) rfl
  have f1 : List.lookup (Str.ofString "back") [(Str.ofString "back", wD b), (Str.ofString "ahead", wD a)] = some (wD b) := rfl
  have f2 : List.lookup (Str.ofString "ahead") [(Str.ofString "back", wD b), (Str.ofString "ahead", wD a)] = some (wD a) := rfl
  have z : Dat.int 0 = wD (.fin 0) := rfl
  refine mDef_rt (S1 := S) rfl ?_ nc_wD take_all
  unfold wantW
  by_cases hb : x ∈ backL <;> by_cases ha : x ∈ aheadL <;> simp [s_Wish_wanted, h1, h2, hb, ha, wishD, f1, f2, z, deeper_eq]
def okx (f : Str → Wo) (b a : Wo) (x : Str) : Bool := match firstW f x with
  | none => true
  | some d => wgt (.fin d) (wantW b a x)
theorem okx_none {f : Str → Wo} {b a : Wo} {x : Str} (h : firstW f x = none) : okx f b a x = true := by unfold okx; rw [h]
theorem okx_some {f : Str → Wo} {b a : Wo} {x : Str} {d : Int} (h : firstW f x = some d) : okx f b a x = wgt (.fin d) (wantW b a x) := by unfold okx; rw [h]
def enough (f : Str → Wo) (b a : Wo) : Bool := nms.all (okx f b a)
theorem enough_loop {f : Str → Wo} {b a : Wo} {S : Sto} : ∀ {xs : List Str} {o2 o3 : Option Dat}, (∀ x ∈ xs, x ∈ nms) →
    ∃ p2 p3, forL (gN 2) b_is_enough_1 (strD xs) [some (nmsD f), some (wishD b a), o2, o3] S = if xs.all (okx f b a) = true then .nx [some (nmsD f), some (wishD b a), p2, p3] S else .rt (.bl false) S
  | [], o2, o3, _ => ⟨o2, o3, rfl⟩
  | x :: xs, o2, o3, h => by
    have hf := first_eq (f := f) (S := S) (h x List.mem_cons_self)
    have fl : List.lookup (Str.ofString "wanted") [(Str.ofString "back", wD b), (Str.ofString "ahead", wD a)] = none := rfl
    rw [List.all_cons]
    cases hd : firstW f x with
    | none =>
      rw [hd] at hf
      obtain ⟨p2, p3, ih⟩ := enough_loop (f := f) (b := b) (a := a) (S := S) (xs := xs) (o2 := some (.str x)) (o3 := some .non) fun y hy => h y (List.mem_cons_of_mem _ hy)
      rw [okx_none hd, Bool.true_and]
      refine ⟨p2, p3, (forL_nx rfl ?_).trans ih⟩
      simp [b_is_enough_1, hf, oD]
    | some d =>
      rw [hd] at hf
      have hg : m_is_deeper [.int d, wD (wantW b a x)] S = .ok (.bl (wgt (.fin d) (wantW b a x))) S := is_deeper_eq (a := .fin d)
      rw [okx_some hd]
      cases hc : wgt (.fin d) (wantW b a x) with
      | true =>
        rw [hc] at hg
        obtain ⟨p2, p3, ih⟩ := enough_loop (f := f) (b := b) (a := a) (S := S) (xs := xs) (o2 := some (.str x)) (o3 := some (.int d)) fun y hy => h y (List.mem_cons_of_mem _ hy)
        rw [Bool.true_and]
        refine ⟨p2, p3, (forL_nx rfl ?_).trans ih⟩
        simp [b_is_enough_1, hf, oD, wishD, fl]
        rw [← wishD]
        simp [wanted_eq, hg]
      | false =>
        rw [hc] at hg
        refine ⟨none, none, (forL_rt rfl (S2 := S) (r := .bl false) ?_).trans rfl⟩
        simp [b_is_enough_1, hf, oD, wishD, fl]
        rw [← wishD]
        simp [wanted_eq, hg]
theorem enough_eq {f : Str → Wo} {b a : Wo} {S : Sto} : m_is_enough [nmsD f, wishD b a] S = .ok (.bl (enough f b a)) S := by
  obtain ⟨p2, p3, h⟩ := enough_loop (f := f) (b := b) (a := a) (S := S) (xs := nms) (o2 := none) (o3 := none) fun _ h => h
  have hk : k_CHANGES = .tup (strD nms) := rfl
  refine mDef_rt (S1 := S) rfl ?_ rfl take_all
  show s_is_enough [some (nmsD f), some (wishD b a), none, none] S = _
  unfold s_is_enough
  have he : enough f b a = nms.all (okx f b a) := rfl
  rw [← he] at h
  simp only [sSeq_s, sFor_s, miE_s, mC_s, bind_ok, hk, itP_tup, ofA_ok, h]
  cases enough f b a <;> simp
/-! last numbers -/
def finL : List Wo → List Int
  | [] => []
  | .fin n :: r => n :: finL r
  | .ever :: r => finL r
def lastsR (b a : Wo) : List Wo := (srtI (finL [.fin 0, .fin 1, b, a])).map Wo.fin ++ [.ever]
def intD : Dat → Dat
  | .int i => .int i
  | _ => .non
theorem lasts_eq {b a : Wo} {S : Sto} : m_possible_lasts [wishD b a] S = .ok (.lst ((lastsR b a).map wD)) S := by
  have f1 : List.lookup (Str.ofString "back") [(Str.ofString "back", wD b), (Str.ofString "ahead", wD a)] = some (wD b) := rfl
  have f2 : List.lookup (Str.ofString "ahead") [(Str.ofString "back", wD b), (Str.ofString "ahead", wD a)] = some (wD a) := rfl
  have h1 : ∀ (e1 : Option Dat) (ws : List Wo), lcL (gN 2) (mTest (mBin dNeP (mVar 2) (mC k_EVER))) (mVar 2) [some (wishD b a), e1, none] (ws.map wD) S = .ok ((finL ws).map fun i => Dat.int i) S := fun e1 ws => by
    have h := lcL_filter (g := gN 2) (t := mTest (mBin dNeP (mVar 2) (mC k_EVER))) (mo := mVar 2) (env := [some (wishD b a), e1, none]) (S := S) (h := id) (c := fun d => match d with
      | .int _ => true
      | _ => false) (ds := ws.map wD) fun d hd => by
        obtain ⟨w, _, rfl⟩ := List.mem_map.mp hd
        cases w with
        | fin n => exact ⟨_, rfl, by simp [wD], fun _ => ⟨rfl, rfl⟩⟩
        | ever => exact ⟨_, rfl, by simp [wD], fun z => by cases z⟩
    rw [h]
    clear h
    congr 1
    induction ws with
    | nil => rfl
    | cons w ws ih =>
      cases w with
      | fin n =>
        rw [List.map_cons, List.filter_cons_of_pos rfl]
        show (Dat.int n) :: _ = Dat.int n :: _
        rw [ih]
      | ever =>
        rw [List.map_cons, List.filter_cons_of_neg (by simp [wD])]
        exact ih
  have h2 : ∀ (e1 : Option Dat) (ns : List Int), lcL (gN 2) tYesM (mB dInt (mCons (mVar 2) mNil)) [some (wishD b a), e1, none] (ns.map fun i => Dat.int i) S = .ok ((ns.map fun i => Dat.int i).map id) S := fun e1 ns => by
    refine lcL_map fun d hd => ?_
    obtain ⟨i, _, rfl⟩ := List.mem_map.mp hd
    exact ⟨_, rfl, by simp, rfl⟩
  have e0 : [Dat.int 0, Dat.int 1, wD b, wD a] = [Wo.fin 0, Wo.fin 1, b, a].map wD := rfl
  have hl : ((finL [Wo.fin 0, Wo.fin 1, b, a]).map fun i => Dat.int i).length ≤ 100000 := by
    rw [List.length_map]
    cases b <;> cases a <;> exact of_decide_eq_true rfl
  have hl2 : (finL [Wo.fin 0, Wo.fin 1, b, a]).length < 64 := by cases b <;> cases a <;> exact of_decide_eq_true rfl
  have hi : intsOf ((finL [Wo.fin 0, Wo.fin 1, b, a]).map fun i => Dat.int i) = some (finL [Wo.fin 0, Wo.fin 1, b, a]) := by
    have := intsOf_map (f := fun i : Int => i) (l := finL [Wo.fin 0, Wo.fin 1, b, a])
    rw [this]
    simp
  have hs : ∀ ns : List Int, ns.length < 64 → ((srtI ns).map Dat.int ++ [Dat.str "ever"]).all nc = true ∧ ((srtI ns).map Dat.int ++ [Dat.str "ever"]).length ≤ 100000 := fun ns h => by
    refine ⟨?_, ?_⟩
    · rw [List.all_append, Bool.and_eq_true]
      refine ⟨List.all_eq_true.mpr fun d hd => ?_, rfl⟩
      obtain ⟨i, _, rfl⟩ := List.mem_map.mp hd
      rfl
    · rw [List.length_append, List.length_map, srtI_perm.length_eq]
      simp
      omega
  refine mDef_rt (S1 := S) rfl ?_ rfl take_all
  show s_possible_lasts [some (wishD b a), none, none] S = _
  have e1 : (sSet 1 (mLc (miE itP (mTup (mCons (mC (.int 0)) (mCons (mC (.int 1)) (mCons (mFld "Wish" "back" (mVar 0)) (mCons (mFld "Wish" "ahead" (mVar 0)) mNil)))))) (gN 2) (mTest (mBin dNeP (mVar 2) (mC k_EVER))) (mVar 2) [2])) [some (wishD b a), none, none] S = .nx [some (wishD b a), some (.lst ((finL [Wo.fin 0, Wo.fin 1, b, a]).map fun i => Dat.int i)), none] S := by
    have hh := h1 none [Wo.fin 0, Wo.fin 1, b, a]
    rw [← e0, k_EVER_s] at hh
    unfold wishD at hh ⊢
    simp only [sSet_s, mLc_s, miE_s, mTup_s, mCons_s, mC_s, mFld_s, mVar_s, List.getElem?_cons_zero, bind_ok, insOf_ins, f1, f2, mNil_s]
    simp [hh]
  unfold s_possible_lasts
  rw [sSeq_s, e1]
  simp only [sRet_s, mLstV_s, mStar_s, mB_s, mCons_s, mLc_s, miE_s, mVar_s, List.getElem?_cons_zero, List.getElem?_cons_succ, bind_ok, itP_lst, hl, if_true, wipeE_cons, wipeE_nil, List.set_cons_succ, List.set_cons_zero, h2, List.map_id, mNil_s, dSrt, dL1_s, lstOf_lst, Option.bind_some, hi, hl2, seqOf_lst, mC_s, k_EVER_s]
  have e2 := hs _ hl2
  rw [if_pos e2]
  unfold lastsR
  rw [List.map_append, List.map_map]
  rfl
def permF (M : List Str) (l : Wo) (x : Str) : Wo := if x ∈ M then .fin 0 else l
def leastW (M : List Str) (b a : Wo) : Option Wo := (lastsR b a).find? fun l => enough (permF M l) b a
def oW : Option Wo → Dat
  | none => .non
  | some w => wD w
theorem dict_eq {M : List Str} {l : Wo} {b a : Wo} {S : Sto} {o : Option Dat} : mDc (miE itP (mC k_CHANGES)) (gN 2) tYesM (mVar 2) (mIf (mTest (mBin (dInP false) (mVar 2) (mVar 0))) (mC (.int 0)) (mVar 3)) [2] [some (.lst (strD M)), some (wishD b a), o, some (wD l)] S = .ok (nmsD (permF M l)) S := by
  have hk : k_CHANGES = .tup (strD nms) := rfl
  have h := dcL_map (g := gN 2) (mk := mVar 2) (mv := mIf (mTest (mBin (dInP false) (mVar 2) (mVar 0))) (mC (.int 0)) (mVar 3)) (env := [some (.lst (strD M)), some (wishD b a), none, some (wD l)]) (S := S) (hk := fun d => .inr (strO d)) (h := fun d => wD (permF M l (strO d))) (ds := strD nms) (acc := []) fun d hd => by
    obtain ⟨y, hy, rfl⟩ := strD_mem hd
    refine ⟨_, .str y, rfl, rfl, rfl, ?_, nc_wD⟩
    have hi : inP (.str y) (.lst (strD M)) S = some (decide (y ∈ M)) := inP_strs rfl
    unfold permF
    by_cases hm : y ∈ M <;> simp [hi, hm, strO, wD]
  have e : ((strD nms).map fun d => ((Sum.inr (strO d) : Key), wD (permF M l (strO d)))) = (nms.map Sum.inr).map fun k : Key => (k, match k with
    | .inr x => wD (permF M l x)
    | .inl _ => .non) := by
    unfold strD
    rw [List.map_map, List.map_map]
    rfl
  simp only [mDc_s, miE_s, mC_s, bind_ok, hk, itP_tup, wipeE_cons, wipeE_nil, List.set_cons_succ, List.set_cons_zero, h]
  rw [e, mergeD_new (by decide +kernel) (fun _ _ _ h => by cases h), if_pos (by decide)]
  simp only [bind_ok, List.nil_append, List.map_map]
  rfl
end JK
namespace JK
open PySem PySem.Spec L2 JL
theorem isi_ss {x : Str} {S : Sto} : dIsi isT [.str x, .ty "str"] S = .ok (.bl true) S := by rfl
theorem is_change_eq {x : Str} {S : Sto} (h : x ∈ nms) : m_is_change [.str x] S = .ok (.bl true) S := by
  have hi : inP (.str x) k_CHANGES S = some (decide (x ∈ nms)) := inP_strs (l := nms) rfl
  refine mDef_rt (S1 := S) rfl ?_ rfl take_all
  simp [s_is_change, isi_ss, hi, h]
theorem ll_loop1 {c w : Dat} {o3 : Option Dat} {S : Sto} : ∀ {M : List Str} {o2 : Option Dat}, (∀ x ∈ M, x ∈ nms) → ∃ p2, forL (gN 2) b_least_last_1 (strD M) [some c, some w, o2, o3] S = .nx [some c, some w, p2, o3] S
  | [], o2, _ => ⟨o2, rfl⟩
  | x :: M, o2, h => by
    obtain ⟨p2, ih⟩ := ll_loop1 (c := c) (w := w) (o3 := o3) (S := S) (M := M) (o2 := some (.str x)) fun y hy => h y (List.mem_cons_of_mem _ hy)
    refine ⟨p2, (forL_nx rfl ?_).trans ih⟩
    simp [b_least_last_1, is_change_eq (h x List.mem_cons_self)]
theorem ll_loop2 {M : List Str} {b a : Wo} {o2 : Option Dat} {S : Sto} : ∀ {ls : List Wo} {o3 : Option Dat}, ∃ p3, forL (gN 3) b_least_last_2 (ls.map wD) [some (.lst (strD M)), some (wishD b a), o2, o3] S = match ls.find? (fun l => enough (permF M l) b a) with
    | some l => .rt (wD l) S
    | none => .nx [some (.lst (strD M)), some (wishD b a), o2, p3] S
  | [], o3 => ⟨o3, rfl⟩
  | l :: ls, o3 => by
    have hd := dict_eq (M := M) (l := l) (b := b) (a := a) (S := S) (o := o2)
    have he := enough_eq (f := permF M l) (b := b) (a := a) (S := S)
    rw [List.map_cons, List.find?_cons]
    cases h : enough (permF M l) b a with
    | true =>
      rw [h] at he
      refine ⟨none, forL_rt rfl ?_⟩
      unfold b_least_last_2
      rw [sIf_s, mTru_s, mCall_s, mCons_s]
      simp only [List.set_cons_succ, List.set_cons_zero, hd, bind_ok, mCons_s, mVar_s, List.getElem?_cons_zero, List.getElem?_cons_succ, mNil_s, List.append_nil, he, tru_bl, ofT_ok, if_true, sRet_s, ofE_ok]
    | false =>
      rw [h] at he
      obtain ⟨p3, ih⟩ := ll_loop2 (M := M) (b := b) (a := a) (o2 := o2) (S := S) (ls := ls) (o3 := some (wD l))
      refine ⟨p3, (forL_nx rfl ?_).trans ih⟩
      unfold b_least_last_2
      rw [sIf_s, mTru_s, mCall_s, mCons_s]
      simp only [List.set_cons_succ, List.set_cons_zero, hd, bind_ok, mCons_s, mVar_s, List.getElem?_cons_zero, List.getElem?_cons_succ, mNil_s, List.append_nil, he, tru_bl, ofT_ok, Bool.false_eq_true, if_false, sSkip_s]
theorem least_eq {M : List Str} {b a : Wo} {S : Sto} (hM : ∀ x ∈ M, x ∈ nms) : m_least_last [.lst (strD M), wishD b a] S = .ok (oW (leastW M b a)) S := by
  obtain ⟨p2, h1⟩ := ll_loop1 (c := .lst (strD M)) (w := wishD b a) (o3 := none) (S := S) (M := M) (o2 := none) hM
  obtain ⟨p3, h2⟩ := ll_loop2 (M := M) (b := b) (a := a) (o2 := p2) (S := S) (ls := lastsR b a) (o3 := none)
  refine mDef_rt (S1 := S) rfl ?_ (by unfold oW; split <;> simp) take_all
  show s_least_last [some (.lst (strD M)), some (wishD b a), none, none] S = _
  unfold s_least_last leastW
  simp only [sSeq_s, sFor_s, miE_s, mVar_s, List.getElem?_cons_zero, List.getElem?_cons_succ, bind_ok, itP_lst, ofA_ok, h1, mCall_s, mCons_s, mNil_s, List.append_nil, lasts_eq, h2]
  cases (lastsR b a).find? (fun l => enough (permF M l) b a) <;> simp [oW]
/-! ### the law's own functions -/
theorem names_split : PySem.Txt.split "add offer drop retire need ease preset widen narrow recode swap reuse move" " " = nms := by decide +kernel
theorem fSplit_s {z y : Str} {S : Sto} (h1 : (y.length == 0) = false) (h2 : z.length ≤ 100000) : fSplit z [.str y] S = .ok (.lst (strD (PySem.Txt.split z y))) S := if_pos ⟨h1, h2⟩
theorem fWords_s {z : Str} {S : Sto} (h2 : z.length ≤ 100000) : fWords z [] S = .ok (.lst (strD (PySem.Txt.words z))) S := if_pos h2
theorem names_eq {S : Sto} : m__law_names [] S = .ok (.lst (strD nms)) S := by
  refine mDef_rt (S1 := S) rfl ?_ rfl take_all
  have h := fSplit_s (S := S) (z := "add offer drop retire need ease preset widen narrow recode swap reuse move") (y := " ") (by decide +kernel) (by decide +kernel)
  rw [names_split] at h
  simp [s__law_names, h]
theorem back_split : PySem.Txt.split "add need preset narrow recode swap reuse move" " " = backL := by decide +kernel
theorem ahead_split : PySem.Txt.split "drop ease preset widen recode swap reuse move" " " = aheadL := by decide +kernel
/-! permits -/
theorem permits_loop {M : List Str} {l : Wo} {S : Sto} : ∀ {xs : List Str} {acc : List (Key × Dat)} {o3 : Option Dat}, acc.length + xs.length ≤ 1000 → ∃ p3, forL (gN 3) b__law_permits_1 (strD xs) [some (.lst (strD M)), some (wD l), some (.cell S.length), o3] (S ++ [some (.dct acc)]) =
    .nx [some (.lst (strD M)), some (wD l), some (.cell S.length), p3] (S ++ [some (.dct (mergeD acc (xs.map fun x => ((Sum.inr x : Key), wD (permF M l x)))))])
  | [], acc, o3, _ => ⟨o3, rfl⟩
  | x :: xs, acc, o3, h => by
    rw [List.length_cons] at h
    have hl := dPutK_len (es := acc) (k := .inr x) (d := wD (permF M l x))
    obtain ⟨p3, ih⟩ := permits_loop (M := M) (l := l) (S := S) (xs := xs) (acc := dPutK acc (.inr x) (wD (permF M l x))) (o3 := some (.str x)) (by omega)
    refine ⟨p3, (forL_nx rfl ?_).trans ih⟩
    have hi : inP (.str x) (.lst (strD M)) (S ++ [some (.dct acc)]) = some (decide (x ∈ M)) := inP_strs rfl
    have hp := dPut_lastK (S := S) (es := acc) (x := x) (d := wD (permF M l x)) nc_wD (by omega)
    unfold permF at hp ⊢
    by_cases hm : x ∈ M
    · rw [if_pos hm] at hp ⊢
      have hp : dPut (.cell S.length) (.str x) (.int 0) (S ++ [some (.dct acc)]) = some (S ++ [some (.dct (dPutK acc (.inr x) (wD (.fin 0))))]) := hp
      simp [b__law_permits_1, hi, hm, hp]
    · rw [if_neg hm] at hp ⊢
      simp [b__law_permits_1, hi, hm, hp]
theorem permits_eq {M : List Str} {l : Wo} {S : Sto} : m__law_permits [.lst (strD M), wD l] S = .ok (nmsD (permF M l)) S := by
  obtain ⟨p3, h⟩ := permits_loop (M := M) (l := l) (S := S) (xs := nms) (acc := []) (o3 := none) (by decide)
  have e : (nms.map fun x => ((Sum.inr x : Key), wD (permF M l x))) = (nms.map Sum.inr).map fun k : Key => (k, match k with
    | .inr x => wD (permF M l x)
    | .inl _ => .non) := by
    rw [List.map_map]
    rfl
  rw [e, mergeD_new (by decide +kernel) (fun _ _ _ h => by cases h)] at h
  refine mDef_rt (S1 := S ++ [none]) rfl ?_ rfl (by simp)
  show s__law_permits [some (.lst (strD M)), some (wD l), none, none] S = _
  unfold s__law_permits
  simp only [sSeq_s, sSet_s, mCelD_s, ofE_ok, List.set_cons_succ, List.set_cons_zero, sFor_s, miE_s, mCall_s, mNil_s, bind_ok, List.append_nil, names_eq, itP_lst, ofA_ok, h]
  rw [frz_last rfl]
  simp [nmsD]
/-! wanted -/
def nn : Wo → Prop
  | .fin n => 0 ≤ n
  | .ever => True
theorem ever_in {ws : List Wo} {S : Sto} : inP (.str "ever") (.lst (ws.map wD)) S = some (ws.any isE) := by
  unfold inP
  have h1 : (ws.map wD).all flatD = true := by
    rw [List.all_eq_true]
    intro d hd
    obtain ⟨w, _, rfl⟩ := List.mem_map.mp hd
    cases w <;> rfl
  have h2 : inD (.str "ever") (ws.map wD) = ws.any isE := by
    unfold inD
    rw [List.any_map]
    congr 1
    funext w
    cases w <;> rfl
  simp only [seqOf_lst, h1, Bool.and_true]
  show (if true = true then some (inD (.str "ever") (ws.map wD)) else none) = _
  rw [if_pos rfl, h2]
theorem ints_fin : ∀ {ws : List Wo}, ws.any isE = false → intsOf (ws.map wD) = some (finL ws) ∧ (∀ d ∈ ws.map wD, ∃ i, d = .int i)
  | [], _ => ⟨rfl, fun d h => (nomatch h)⟩
  | .ever :: ws, h => by simp [isE] at h
  | .fin n :: ws, h => by
    rw [List.any_cons] at h
    obtain ⟨h1, h2⟩ := ints_fin (ws := ws) (by simpa [isE] using h)
    refine ⟨?_, fun d hd => ?_⟩
    · show (intsOf (ws.map wD)).map (n :: ·) = _
      rw [h1]
      rfl
    · rcases List.mem_cons.mp hd with e | e
      · exact ⟨n, e⟩
      · exact h2 d e
theorem wfin {x : Str} {b a : Wo} {S : Sto} {ws : List Wo} (hl : ws.length ≤ 1000) (h0 : finL ws ≠ []) : (sFrz 3 (sRet (mIf (mTest (mBin (dInP false) (mC (.str "ever")) (mVar 3))) (mC (.str "ever")) (mB dMax (mCons (mLc (miE itP (mVar 3)) (gN 4) tYesM (mB dInt (mCons (mVar 4) mNil)) [4]) mNil))))) [some (.str x), some (wD b), some (wD a), some (.cell S.length), none] (S ++ [some (.lst (ws.map wD))]) =
    .rt (if ws.any isE = true then .str "ever" else .int (maxI (finL ws))) (S ++ [none]) := by
  rw [frz_last rfl]
  have hu : ∀ w : Wo, unCell S.length (.lst (ws.map wD)) (wD w) = wD w := fun w => by cases w <;> rfl
  have e : (List.map (fun o => Option.map (unCell S.length (.lst (ws.map wD))) o) [some (.str x), some (wD b), some (wD a), some (.cell S.length), none]) = [some (.str x), some (wD b), some (wD a), some (.lst (ws.map wD)), none] := by
    simp only [List.map_cons, List.map_nil, Option.map_some, Option.map_none, hu, unCell_same]
    rfl
  rw [e]
  have hi := ever_in (ws := ws) (S := S ++ [none])
  have hl2 : (ws.map wD).length ≤ 100000 := by rw [List.length_map]; omega
  cases he : ws.any isE with
  | true =>
    rw [he] at hi
    simp [hi]
  | false =>
    rw [he] at hi
    obtain ⟨h1, h2⟩ := ints_fin he
    have h3 : lcL (gN 4) tYesM (mB dInt (mCons (mVar 4) mNil)) [some (.str x), some (wD b), some (wD a), some (.lst (ws.map wD)), none] (ws.map wD) (S ++ [none]) = .ok ((ws.map wD).map id) (S ++ [none]) := lcL_map fun d hd => by
      obtain ⟨i, rfl⟩ := h2 d hd
      exact ⟨_, rfl, by simp, rfl⟩
    rw [List.map_id] at h3
    simp only [sRet_s, mIf_s, mTest_s, mBin_s, mC_s, bind_ok, mVar_s, List.getElem?_cons_zero, List.getElem?_cons_succ, dInP_s, hi, Bool.false_eq_true, if_false, mB_s, mCons_s, mLc_s, miE_s, itP_lst, hl2, if_true, wipeE_cons, wipeE_nil, List.set_cons_succ, List.set_cons_zero, h3, mNil_s, dMax, dL1_s, lstOf_lst, Option.bind_some, h1]
    have h4 : (finL ws).isEmpty = false := by simpa using h0
    rw [h4]
    rfl
theorem wmax_fin {n m : Int} : wmax (.fin n) (.fin m) = .fin (if m < n then n else m) := by
  unfold wmax wgt
  by_cases h : m < n <;> simp [h]
theorem law_wanted_eq {x : Str} {b a : Wo} {S : Sto} (hb : nn b) (ha : nn a) : m__law_wanted [.str x, wD b, wD a] S = .ok (wD (wantW b a x)) S := by
  have s1 : ∀ S : Sto, fSplit "add need preset narrow recode swap reuse move" [.str " "] S = .ok (.lst (strD backL)) S := fun S => by rw [fSplit_s (by decide +kernel) (by decide +kernel), back_split]
  have s2 : ∀ S : Sto, fSplit "drop ease preset widen recode swap reuse move" [.str " "] S = .ok (.lst (strD aheadL)) S := fun S => by rw [fSplit_s (by decide +kernel) (by decide +kernel), ahead_split]
  have i1 : ∀ S : Sto, inP (.str x) (.lst (strD backL)) S = some (decide (x ∈ backL)) := fun S => inP_strs rfl
  have i2 : ∀ S : Sto, inP (.str x) (.lst (strD aheadL)) S = some (decide (x ∈ aheadL)) := fun S => inP_strs rfl
  refine mDef_rt (S1 := S ++ [none]) rfl ?_ nc_wD (by simp)
  show s__law_wanted [some (.str x), some (wD b), some (wD a), none, none] S = _
  unfold s__law_wanted wantW
  have w1 := wfin (x := x) (b := b) (a := a) (S := S) (ws := [.fin 0, b, a]) (by simp) (by simp [finL])
  have w2 := wfin (x := x) (b := b) (a := a) (S := S) (ws := [.fin 0, b]) (by simp) (by simp [finL])
  have w3 := wfin (x := x) (b := b) (a := a) (S := S) (ws := [.fin 0, a]) (by simp) (by simp [finL])
  have w4 := wfin (x := x) (b := b) (a := a) (S := S) (ws := [.fin 0]) (by simp) (by simp [finL])
  have v1 : (if ([Wo.fin 0, b, a].any isE) = true then Dat.str "ever" else .int (maxI (finL [.fin 0, b, a]))) = wD (wmax b a) := by
    cases b with
    | ever => cases a <;> rfl
    | fin n => cases a with
      | ever => rfl
      | fin m =>
        have hb : 0 ≤ n := hb
        have ha : 0 ≤ m := ha
        rw [wmax_fin]
        show Dat.int (max 0 (max n m)) = .int _
        congr 1
        split <;> omega
  have v2 : (if ([Wo.fin 0, b].any isE) = true then Dat.str "ever" else .int (maxI (finL [.fin 0, b]))) = wD (wmax b (.fin 0)) := by
    cases b with
    | ever => rfl
    | fin n =>
      have hb : 0 ≤ n := hb
      rw [wmax_fin]
      show Dat.int (max 0 n) = .int _
      congr 1
      split <;> omega
  have v3 : (if ([Wo.fin 0, a].any isE) = true then Dat.str "ever" else .int (maxI (finL [.fin 0, a]))) = wD (wmax (.fin 0) a) := by
    cases a with
    | ever => rfl
    | fin m =>
      have ha : 0 ≤ m := ha
      rw [wmax_fin]
      show Dat.int (max 0 m) = .int _
      congr 1
      split <;> omega
  have v4 : (if ([Wo.fin 0].any isE) = true then Dat.str "ever" else .int (maxI (finL [.fin 0]))) = wD (wmax (.fin 0) (.fin 0)) := rfl
  rw [v1] at w1
  rw [v2] at w2
  rw [v3] at w3
  rw [v4] at w4
  have m1 : [Wo.fin 0, b, a].map wD = [.int 0, wD b, wD a] := rfl
  have m2 : [Wo.fin 0, b].map wD = [.int 0, wD b] := rfl
  have m3 : [Wo.fin 0, a].map wD = [.int 0, wD a] := rfl
  have m4 : [Wo.fin 0].map wD = [.int 0] := rfl
  rw [m1] at w1
  rw [m2] at w2
  rw [m3] at w3
  rw [m4] at w4
  by_cases hx1 : x ∈ backL <;> by_cases hx2 : x ∈ aheadL <;> simp [s1, s2, i1, i2, hx1, hx2]
  · exact w1
  · exact w2
  · exact w3
  · exact w4
/-! ways -/
def lwT (w : List Str × List Str) : Dat := .lst [.lst (strD w.1), .lst (strD w.2)]
def lways (x : Str) : List (List Str × List Str) := (waysL.filter fun w => decide (x ∈ w.1)).map (·.2)
def kindsS : Str := "drop add:;drop offer:ease;retire add:need"
def placesS : Str := "drop add:;drop offer:;retire add:;retire offer:"
def tab0 : List (Key × Dat) := [(.inr "add", .str "offer need:"), (.inr "offer", .str "add ease:"), (.inr "drop", .str "ease retire:"), (.inr "retire", .str "need drop:")]
def tab1 : List (Key × Dat) := dPutK (dPutK (dPutK (dPutK tab0 (.inr "need") (.str "retire add:")) (.inr "ease") (.str "drop offer:")) (.inr "reuse") (.str placesS)) (.inr "move") (.str placesS)
def tab2 : List (Key × Dat) := dPutK tab1 (.inr "preset") (.str "need ease:;retire offer:;retire add ease:need offer;need drop offer:retire ease")
def rS : Str := "recode:;swap:;retire offer:;"
def sS : Str := "swap:;retire offer:;"
def pS : Str := "retire offer:preset;"
def tab3 : List (Key × Dat) := dPutK tab2 (.inr "widen") (.str (rS ++ kindsS))
def tab4 : List (Key × Dat) := dPutK (dPutK tab3 (.inr "narrow") (.str (rS ++ kindsS))) (.inr "recode") (.str (sS ++ kindsS))
def tab5 : List (Key × Dat) := dPutK tab4 (.inr "swap") (.str (pS ++ kindsS))
def lwE : DE := mLc (miE itP (mBS fSplit (mBin dGet (mVar 3) (mVar 0)) (mCons (mC (.str ";")) mNil))) (gN 4) tYesM (mLc (miE itP (mBS fSplit (mVar 4) (mCons (mC (.str ":")) mNil))) (gN 5) tYesM (mBS fWords (mVar 5) mNil) [5]) [4]
theorem lways_go {x : Str} {S : Sto} : s__law_ways [some (.str x), none, none, none, none, none] S = sRet lwE [some (.str x), some (.str kindsS), some (.str placesS), some (.cell S.length), none, none] (S ++ [some (.dct tab5)]) := by
  have p : ∀ (es : List (Key × Dat)) (y : Str) (z : Str), es.length < 100000 → dPut (.cell S.length) (.str y) (.str z) (S ++ [some (.dct es)]) = some (S ++ [some (.dct (dPutK es (.inr y) (.str z)))]) := fun es y z h => dPut_lastK rfl h
  have a1 : ∀ S : Sto, dAddP (.str "recode:;swap:;retire offer:;") (.str kindsS) S = .ok (.str (rS ++ kindsS)) S := fun S => by rw [dAddP_str, if_pos (by decide +kernel)]; rfl
  have a2 : ∀ S : Sto, dAddP (.str "swap:;retire offer:;") (.str kindsS) S = .ok (.str (sS ++ kindsS)) S := fun S => by rw [dAddP_str, if_pos (by decide +kernel)]; rfl
  have a3 : ∀ S : Sto, dAddP (.str "retire offer:preset;") (.str kindsS) S = .ok (.str (pS ++ kindsS)) S := fun S => by rw [dAddP_str, if_pos (by decide +kernel)]; rfl
  have h1 : sAsg (gT (gC (gN 1) (gC (gN 2) gZ))) (mTup (mCons (mC (.str "drop add:;drop offer:ease;retire add:need")) (mCons (mC (.str "drop add:;drop offer:;retire add:;retire offer:")) mNil))) [some (.str x), none, none, none, none, none] S = .nx [some (.str x), some (.str kindsS), some (.str placesS), none, none, none] S := rfl
  have h2 : sSet 3 (mDisC (mPc (mC (.str "add")) (mC (.str "offer need:")) (mPc (mC (.str "offer")) (mC (.str "add ease:")) (mPc (mC (.str "drop")) (mC (.str "ease retire:")) (mPc (mC (.str "retire")) (mC (.str "need drop:")) mPn))))) [some (.str x), some (.str kindsS), some (.str placesS), none, none, none] S = .nx [some (.str x), some (.str kindsS), some (.str placesS), some (.cell S.length), none, none] (S ++ [some (.dct tab0)]) := by kernel_rfl
  have q1 := p tab0 "need" "retire add:" (by decide +kernel)
  have q2 := p (dPutK tab0 (.inr "need") (.str "retire add:")) "ease" "drop offer:" (by decide +kernel)
  have q3 := p (dPutK (dPutK tab0 (.inr "need") (.str "retire add:")) (.inr "ease") (.str "drop offer:")) "reuse" placesS (by decide +kernel)
  have q4 := p (dPutK (dPutK (dPutK tab0 (.inr "need") (.str "retire add:")) (.inr "ease") (.str "drop offer:")) (.inr "reuse") (.str placesS)) "move" placesS (by decide +kernel)
  have q5 := p tab1 "preset" "need ease:;retire offer:;retire add ease:need offer;need drop offer:retire ease" (by decide +kernel)
  have q6 := p tab2 "widen" (rS ++ kindsS) (by decide +kernel)
  have q7 := p tab3 "narrow" (rS ++ kindsS) (by decide +kernel)
  have q8 := p (dPutK tab3 (.inr "narrow") (.str (rS ++ kindsS))) "recode" (sS ++ kindsS) (by decide +kernel)
  have q9 := p tab4 "swap" (pS ++ kindsS) (by decide +kernel)
  have h3 : sAsgH (hT (hC (hSub (mVar 3) (mC (.str "need"))) (hC (hSub (mVar 3) (mC (.str "ease"))) (hC (hSub (mVar 3) (mC (.str "reuse"))) (hC (hSub (mVar 3) (mC (.str "move"))) hZ))))) (mTup (mCons (mC (.str "retire add:")) (mCons (mC (.str "drop offer:")) (mCons (mVar 2) (mCons (mVar 2) mNil))))) [some (.str x), some (.str kindsS), some (.str placesS), some (.cell S.length), none, none] (S ++ [some (.dct tab0)]) = .nx [some (.str x), some (.str kindsS), some (.str placesS), some (.cell S.length), none, none] (S ++ [some (.dct tab1)]) := by
    simp [q1, q2, q3, q4]
    rfl
  have h4 : sAsgH (hSub (mVar 3) (mC (.str "preset"))) (mC (.str "need ease:;retire offer:;retire add ease:need offer;need drop offer:retire ease")) [some (.str x), some (.str kindsS), some (.str placesS), some (.cell S.length), none, none] (S ++ [some (.dct tab1)]) = .nx [some (.str x), some (.str kindsS), some (.str placesS), some (.cell S.length), none, none] (S ++ [some (.dct tab2)]) := by
    simp [q5]
    rfl
  have h5 : sAsgH (hSub (mVar 3) (mC (.str "widen"))) (mBin dAddP (mC (.str "recode:;swap:;retire offer:;")) (mVar 1)) [some (.str x), some (.str kindsS), some (.str placesS), some (.cell S.length), none, none] (S ++ [some (.dct tab2)]) = .nx [some (.str x), some (.str kindsS), some (.str placesS), some (.cell S.length), none, none] (S ++ [some (.dct tab3)]) := by
    simp only [sAsgH_s, mBin_s, mC_s, bind_ok, mVar_s, List.getElem?_cons_zero, List.getElem?_cons_succ, a1, ofE_ok, hSub_s, okOf_ok, Option.bind_some, q6, Option.map_some]
    rfl
  have h6 : sAsgH (hT (hC (hSub (mVar 3) (mC (.str "narrow"))) (hC (hSub (mVar 3) (mC (.str "recode"))) hZ))) (mTup (mCons (mBin dAddP (mC (.str "recode:;swap:;retire offer:;")) (mVar 1)) (mCons (mBin dAddP (mC (.str "swap:;retire offer:;")) (mVar 1)) mNil))) [some (.str x), some (.str kindsS), some (.str placesS), some (.cell S.length), none, none] (S ++ [some (.dct tab3)]) = .nx [some (.str x), some (.str kindsS), some (.str placesS), some (.cell S.length), none, none] (S ++ [some (.dct tab4)]) := by
    simp only [sAsgH_s, mTup_s, mCons_s, mNil_s, mBin_s, mC_s, bind_ok, mVar_s, List.getElem?_cons_zero, List.getElem?_cons_succ, a1, a2, ofE_ok]
    simp only [List.all_cons, List.all_nil, nc_str, Bool.and_true, if_true]
    simp only [ofE_ok, hT_s, hC_s, hZ_s, hSub_s, mC_s, mVar_s, List.getElem?_cons_zero, List.getElem?_cons_succ, okOf_ok, Option.bind_some, q7, q8, Option.map_some]
    rfl
  have h7 : sAsgH (hSub (mVar 3) (mC (.str "swap"))) (mBin dAddP (mC (.str "retire offer:preset;")) (mVar 1)) [some (.str x), some (.str kindsS), some (.str placesS), some (.cell S.length), none, none] (S ++ [some (.dct tab4)]) = .nx [some (.str x), some (.str kindsS), some (.str placesS), some (.cell S.length), none, none] (S ++ [some (.dct tab5)]) := by
    simp only [sAsgH_s, mBin_s, mC_s, bind_ok, mVar_s, List.getElem?_cons_zero, List.getElem?_cons_succ, a3, ofE_ok, hSub_s, okOf_ok, Option.bind_some, q9, Option.map_some]
    rfl
  unfold s__law_ways lwE
  rw [sSeq_s, h1]
  simp only
  rw [sSeq_s, h2]
  simp only
  rw [sSeq_s, h3]
  simp only
  rw [sSeq_s, h4]
  simp only
  rw [sSeq_s, h5]
  simp only
  rw [sSeq_s, h6]
  simp only
  rw [sSeq_s, h7]
theorem lw_val : ∀ x ∈ nms, ∃ (y : Str) (L : List (List Str × List Str)), dLook tab5 (.inr x) = some (.str y) ∧ L.Perm (lways x) ∧ (∀ (S : Sto) (e1 e2 e3 e4 : Option Dat), (mLc (miE itP (mBS fSplit (mC (.str y)) (mCons (mC (.str ";")) mNil))) (gN 4) tYesM (mLc (miE itP (mBS fSplit (mVar 4) (mCons (mC (.str ":")) mNil))) (gN 5) tYesM (mBS fWords (mVar 5) mNil) [5]) [4]) [e1, e2, e3, e4, none, none] S = .ok (.lst (L.map lwT)) S) := by
  intro x hx
  simp only [nms, List.mem_cons, List.not_mem_nil, or_false] at hx
  rcases hx with rfl | rfl | rfl | rfl | rfl | rfl | rfl | rfl | rfl | rfl | rfl | rfl | rfl
  · exact ⟨"offer need:", [(["offer", "need"], [])], by kernel_rfl, by decide +kernel, fun _ _ _ _ _ => by kernel_rfl⟩
  · exact ⟨"add ease:", [(["add", "ease"], [])], by kernel_rfl, by decide +kernel, fun _ _ _ _ _ => by kernel_rfl⟩
  · exact ⟨"ease retire:", [(["ease", "retire"], [])], by kernel_rfl, by decide +kernel, fun _ _ _ _ _ => by kernel_rfl⟩
  · exact ⟨"need drop:", [(["need", "drop"], [])], by kernel_rfl, by decide +kernel, fun _ _ _ _ _ => by kernel_rfl⟩
  · exact ⟨"retire add:", [(["retire", "add"], [])], by kernel_rfl, by decide +kernel, fun _ _ _ _ _ => by kernel_rfl⟩
  · exact ⟨"drop offer:", [(["drop", "offer"], [])], by kernel_rfl, by decide +kernel, fun _ _ _ _ _ => by kernel_rfl⟩
  · exact ⟨"need ease:;retire offer:;retire add ease:need offer;need drop offer:retire ease", [(["need", "ease"], []), (["retire", "offer"], []), (["retire", "add", "ease"], ["need", "offer"]), (["need", "drop", "offer"], ["retire", "ease"])], by kernel_rfl, by decide +kernel, fun _ _ _ _ _ => by kernel_rfl⟩
  · exact ⟨"recode:;swap:;retire offer:;drop add:;drop offer:ease;retire add:need", [(["recode"], []), (["swap"], []), (["retire", "offer"], []), (["drop", "add"], []), (["drop", "offer"], ["ease"]), (["retire", "add"], ["need"])], by kernel_rfl, by decide +kernel, fun _ _ _ _ _ => by kernel_rfl⟩
  · exact ⟨"recode:;swap:;retire offer:;drop add:;drop offer:ease;retire add:need", [(["recode"], []), (["swap"], []), (["retire", "offer"], []), (["drop", "add"], []), (["drop", "offer"], ["ease"]), (["retire", "add"], ["need"])], by kernel_rfl, by decide +kernel, fun _ _ _ _ _ => by kernel_rfl⟩
  · exact ⟨"swap:;retire offer:;drop add:;drop offer:ease;retire add:need", [(["swap"], []), (["retire", "offer"], []), (["drop", "add"], []), (["drop", "offer"], ["ease"]), (["retire", "add"], ["need"])], by kernel_rfl, by decide +kernel, fun _ _ _ _ _ => by kernel_rfl⟩
  · exact ⟨"retire offer:preset;drop add:;drop offer:ease;retire add:need", [(["retire", "offer"], ["preset"]), (["drop", "add"], []), (["drop", "offer"], ["ease"]), (["retire", "add"], ["need"])], by kernel_rfl, by decide +kernel, fun _ _ _ _ _ => by kernel_rfl⟩
  · exact ⟨"drop add:;drop offer:;retire add:;retire offer:", [(["drop", "add"], []), (["drop", "offer"], []), (["retire", "add"], []), (["retire", "offer"], [])], by kernel_rfl, by decide +kernel, fun _ _ _ _ _ => by kernel_rfl⟩
  · exact ⟨"drop add:;drop offer:;retire add:;retire offer:", [(["drop", "add"], []), (["drop", "offer"], []), (["retire", "add"], []), (["retire", "offer"], [])], by kernel_rfl, by decide +kernel, fun _ _ _ _ _ => by kernel_rfl⟩
theorem lways_eq {x : Str} (hx : x ∈ nms) : ∃ L : List (List Str × List Str), L.Perm (lways x) ∧ ∀ S : Sto, m__law_ways [.str x] S = .ok (.lst (L.map lwT)) S := by
  obtain ⟨y, L, h1, h2, h3⟩ := lw_val x hx
  refine ⟨L, h2, fun S => ?_⟩
  refine mDef_rt (S1 := S ++ [some (.dct tab5)]) rfl ?_ rfl (by simp)
  show s__law_ways [some (.str x), none, none, none, none, none] S = _
  rw [lways_go]
  have h4 := h3 (S ++ [some (.dct tab5)]) (some (.str x)) (some (.str kindsS)) (some (.str placesS)) (some (.cell S.length))
  have h5 : dGet (.cell S.length) (.str x) (S ++ [some (.dct tab5)]) = .ok (.str y) (S ++ [some (.dct tab5)]) := by
    rw [dGet_s, dctOf_last, keyOf_str]
    simp only [h1]
  have h6 : lwE [some (.str x), some (.str kindsS), some (.str placesS), some (.cell S.length), none, none] (S ++ [some (.dct tab5)]) = .ok (.lst (L.map lwT)) (S ++ [some (.dct tab5)]) := by
    rw [← h4]
    unfold lwE
    rw [mLc_s, mLc_s]
    simp only [miE_s, mBS_s, mBin_s, mVar_s, List.getElem?_cons_zero, List.getElem?_cons_succ, bind_ok, h5, mC_s]
  rw [sRet_s, h6]
  rfl
end JK
namespace JK
open PySem PySem.Spec L2 JL
theorem zero_in {ws : List Wo} {S : Sto} : inP (.int 0) (.lst (ws.map wD)) S = some (ws.any isZ) := by
  unfold inP
  have h1 : (ws.map wD).all flatD = true := by
    rw [List.all_eq_true]
    intro d hd
    obtain ⟨w, _, rfl⟩ := List.mem_map.mp hd
    cases w <;> rfl
  have h2 : inD (.int 0) (ws.map wD) = ws.any isZ := by
    unfold inD
    rw [List.any_map]
    congr 1
    funext w
    cases w with
    | ever => rfl
    | fin n => show (n == 0) = decide (n = 0); by_cases h : n = 0 <;> simp [h]
  simp only [seqOf_lst, h1, Bool.and_true]
  show (if true = true then some (inD (.int 0) (ws.map wD)) else none) = _
  rw [if_pos rfl, h2]
def ldC (f : Str → Wo) (s w : List Str) : Bool := s.all (fun y => isZ (f y)) && !((w.map f).any isE)
def ldD (f : Str → Wo) (w : List Str) : Bool := decide ((w.length : Int) < 2) || !((w.map f).any isZ)
def ld (f : Str → Wo) (v : Int) (s w : List Str) : Option Int := if (ldC f s w && ldD f w) = true then some (1 + maxI [v, (finL (w.map f)).sum]) else none
theorem wdW_eq {f : Str → Wo} {two : Bool} : ∀ {ws : List Str} {t : Int}, wdW f two ws t = if ((ws.map f).any isE || (two && (ws.map f).any isZ)) = true then none else some (t + (finL (ws.map f)).sum)
  | [], t => by simp [wdW, finL]
  | w :: ws, t => by
    unfold wdW
    rw [List.map_cons, List.any_cons, List.any_cons]
    cases hf : f w with
    | ever => simp [isE]
    | fin n =>
      simp only [isE, isZ, Bool.false_or, finL, List.sum_cons]
      rw [wdW_eq]
      by_cases h0 : n = 0 <;> cases two <;> simp [h0, Int.add_assoc]
theorem ld_wd {f : Str → Wo} {v : Int} {s w : List Str} (hl : w.length ≤ 2) : ld f v s w = wd f v s w := by
  unfold ld wd ldC ldD
  rw [wdW_eq]
  have e1 : (s.all fun y => isZ (f y)) = !(s.any fun y => !isZ (f y)) := by
    rw [List.not_any_eq_all_not]
    simp
  have e2 : decide ((w.length : Int) < 2) = !decide ((w.length : Int) = 2) := by
    by_cases h : (w.length : Int) = 2
    · simp [h]
    · have : (w.length : Int) < 2 := by omega
      simp [h, this]
  have e3 : maxI [v, (finL (w.map f)).sum] = if (finL (w.map f)).sum < v then v else (finL (w.map f)).sum := by
    show max v (finL (w.map f)).sum = _
    split <;> omega
  rw [e1, e2, e3]
  cases (s.any fun y => !isZ (f y)) <;> cases ((w.map f).any isE) <;> cases decide ((w.length : Int) = 2) <;> cases ((w.map f).any isZ) <;> simp <;> omega
def intsD (l : List Int) : List Dat := l.map .int
theorem intsD_of {l : List Int} : intsOf (intsD l) = some l := by
  have := intsOf_map (f := fun i : Int => i) (l := l)
  simpa [intsD] using this
theorem lf_body {f : Str → Wo} {x : Str} {v : Int} {s w : List Str} {S : Sto} {acc : List Int} {o3 o4 o5 o6 o7 : Option Dat} (hx : x ∈ nms) (hv : f x = .fin v) (h1 : ∀ y ∈ s, y ∈ nms) (h2 : ∀ y ∈ w, y ∈ nms) (hs : s.length ≤ 1000) (hw : w.length ≤ 1000) (ha : acc.length < 1000) :
    ∃ p5 p6 p7, b__law_first_1 [some (nmsD f), some (.str x), some (.cell S.length), some (.lst (strD s)), some (.lst (strD w)), o5, o6, o7, none, none, none, none] (S ++ [some (.lst (intsD acc))]) =
      .nx [some (nmsD f), some (.str x), some (.cell S.length), some (.lst (strD s)), some (.lst (strD w)), p5, p6, p7, none, none, none, none] (S ++ [some (.lst (intsD (acc ++ (ld f v s w).toList)))]) := by
  have hg := get_eq (f := f) (S := S ++ [some (.lst (intsD acc))]) hx
  rw [hv] at hg
  have hls : (strD s).length ≤ 100000 := by rw [strD_len]; omega
  have hlw : (strD w).length ≤ 100000 := by rw [strD_len]; omega
  have c1 : ∀ env : JL.Env, env[0]? = some (some (nmsD f)) → env.length = 12 → lcL (gN 8) tYesM (mBin dGet (mVar 0) (mVar 8)) env (strD w) (S ++ [some (.lst (intsD acc))]) = .ok ((w.map f).map wD) (S ++ [some (.lst (intsD acc))]) := fun env he hl => by
    have h := lcL_map (g := gN 8) (mo := mBin dGet (mVar 0) (mVar 8)) (env := env) (S := S ++ [some (.lst (intsD acc))]) (h := fun d => wD (f (strO d))) (ds := strD w) fun d hd => by
      obtain ⟨y, hy, rfl⟩ := strD_mem hd
      refine ⟨_, rfl, ?_, nc_wD⟩
      have e8 : (env.set 8 (some (.str y)))[8]? = some (some (.str y)) := List.getElem?_set_self (by omega)
      have e0 : (env.set 8 (some (.str y)))[0]? = some (some (nmsD f)) := by rw [List.getElem?_set_ne (by decide)]; exact he
      simp [e8, e0, get_eq (h2 y hy), strO]
    rw [h]
    unfold strD
    rw [List.map_map, List.map_map]
    rfl
  have c2 : ∀ env : JL.Env, env[0]? = some (some (nmsD f)) → env.length = 12 → lcL (gN 10) tYesM (mBin dEqP (mBin dGet (mVar 0) (mVar 10)) (mC (.int 0))) env (strD s) (S ++ [some (.lst (intsD acc))]) = .ok (s.map fun y => .bl (isZ (f y))) (S ++ [some (.lst (intsD acc))]) := fun env he hl => by
    have h := lcL_map (g := gN 10) (mo := mBin dEqP (mBin dGet (mVar 0) (mVar 10)) (mC (.int 0))) (env := env) (S := S ++ [some (.lst (intsD acc))]) (h := fun d => .bl (isZ (f (strO d)))) (ds := strD s) fun d hd => by
      obtain ⟨y, hy, rfl⟩ := strD_mem hd
      refine ⟨_, rfl, ?_, rfl⟩
      have e8 : (env.set 10 (some (.str y)))[10]? = some (some (.str y)) := List.getElem?_set_self (by omega)
      have e0 : (env.set 10 (some (.str y)))[0]? = some (some (nmsD f)) := by rw [List.getElem?_set_ne (by decide)]; exact he
      simp [e8, e0, get_eq (h1 y hy), eq0, strO]
    rw [h]
    unfold strD
    rw [List.map_map]
    rfl
  have hB := blsOf_map (f := fun y => isZ (f y)) (l := s)
  have hE := ever_in (ws := w.map f) (S := S ++ [some (.lst (intsD acc))])
  have hZ := zero_in (ws := w.map f) (S := S ++ [some (.lst (intsD acc))])
  have hal : (s.map fun y => isZ (f y)).all id = s.all fun y => isZ (f y) := by
    rw [List.all_map]
    rfl
  have hlen : (strD w).length = w.length := strD_len
  have g1 : (sSet 5 (mLc (miE itP (mVar 4)) (gN 8) tYesM (mBin dGet (mVar 0) (mVar 8)) [8])) [some (nmsD f), some (.str x), some (.cell S.length), some (.lst (strD s)), some (.lst (strD w)), o5, o6, o7, none, none, none, none] (S ++ [some (.lst (intsD acc))]) =
      .nx [some (nmsD f), some (.str x), some (.cell S.length), some (.lst (strD s)), some (.lst (strD w)), some (.lst ((w.map f).map wD)), o6, o7, none, none, none, none] (S ++ [some (.lst (intsD acc))]) := by
    simp only [sSet_s, mLc_s, miE_s, mVar_s, List.getElem?_cons_zero, List.getElem?_cons_succ, bind_ok, itP_lst, hlw, if_true, wipeE_cons, wipeE_nil, List.set_cons_succ, List.set_cons_zero]
    rw [c1 _ rfl rfl]
    rfl
  have g2 : (sSet 6 (mAnd (mB dAll (mCons (mLc (miE itP (mVar 3)) (gN 10) tYesM (mBin dEqP (mBin dGet (mVar 0) (mVar 10)) (mC (.int 0))) [10]) mNil)) (mBin (dInP true) (mC (.str "ever")) (mVar 5)))) [some (nmsD f), some (.str x), some (.cell S.length), some (.lst (strD s)), some (.lst (strD w)), some (.lst ((w.map f).map wD)), o6, o7, none, none, none, none] (S ++ [some (.lst (intsD acc))]) =
      .nx [some (nmsD f), some (.str x), some (.cell S.length), some (.lst (strD s)), some (.lst (strD w)), some (.lst ((w.map f).map wD)), some (.bl (ldC f s w)), o7, none, none, none, none] (S ++ [some (.lst (intsD acc))]) := by
    simp only [sSet_s, mAnd_s, mB_s, mCons_s, mLc_s, miE_s, mVar_s, List.getElem?_cons_zero, List.getElem?_cons_succ, bind_ok, itP_lst, hls, if_true, wipeE_cons, wipeE_nil, List.set_cons_succ, List.set_cons_zero]
    rw [c2 _ rfl rfl]
    simp only [bind_ok, mNil_s, dAll, dL1_s, lstOf_lst, Option.bind_some, hB, hal, mBin_s, mC_s, mVar_s, List.getElem?_cons_zero, List.getElem?_cons_succ, dInP_s, hE]
    unfold ldC
    cases (s.all fun y => isZ (f y)) <;> simp
  unfold b__law_first_1
  rw [sSeq_s, g1]
  simp only
  rw [sSeq_s, g2]
  simp only
  unfold ld
  by_cases hc : (ldC f s w && ldD f w) = true
  · rw [if_pos hc]
    rw [Bool.and_eq_true] at hc
    obtain ⟨hc1, hc2⟩ := hc
    have hnE : (w.map f).any isE = false := by
      unfold ldC at hc1
      rw [Bool.and_eq_true] at hc1
      simpa using hc1.2
    obtain ⟨i1, i2⟩ := ints_fin hnE
    have c3 : ∀ env : JL.Env, env.length = 12 → lcL (gN 11) tYesM (mB dInt (mCons (mVar 11) mNil)) env ((w.map f).map wD) (S ++ [some (.lst (intsD acc))]) = .ok (((w.map f).map wD).map id) (S ++ [some (.lst (intsD acc))]) := fun env hl => lcL_map fun d hd => by
      obtain ⟨i, rfl⟩ := i2 d hd
      refine ⟨_, rfl, ?_, rfl⟩
      have e8 : (env.set 11 (some (.int i)))[11]? = some (some (.int i)) := List.getElem?_set_self (by omega)
      simp [e8]
    have hlw2 : ((w.map f).map wD).length ≤ 100000 := by rw [List.length_map, List.length_map]; omega
    have g3 : (sSet 7 (mB dSum (mCons (mLc (miE itP (mVar 5)) (gN 11) tYesM (mB dInt (mCons (mVar 11) mNil)) [11]) mNil))) [some (nmsD f), some (.str x), some (.cell S.length), some (.lst (strD s)), some (.lst (strD w)), some (.lst ((w.map f).map wD)), some (.bl (ldC f s w)), o7, none, none, none, none] (S ++ [some (.lst (intsD acc))]) =
        .nx [some (nmsD f), some (.str x), some (.cell S.length), some (.lst (strD s)), some (.lst (strD w)), some (.lst ((w.map f).map wD)), some (.bl (ldC f s w)), some (.int (finL (w.map f)).sum), none, none, none, none] (S ++ [some (.lst (intsD acc))]) := by
      simp only [sSet_s, mB_s, mCons_s, mLc_s, miE_s, mVar_s, List.getElem?_cons_zero, List.getElem?_cons_succ, bind_ok, itP_lst, hlw2, if_true, wipeE_cons, wipeE_nil, List.set_cons_succ, List.set_cons_zero]
      rw [c3 _ rfl, List.map_id]
      simp only [bind_ok, mNil_s, dSum, dL1_s, lstOf_lst, Option.bind_some, i1, ofE_ok]
    have hla : (intsD acc).length < 100000 := by unfold intsD; rw [List.length_map]; omega
    have e7 : intsOf [Dat.int v, .int (finL (w.map f)).sum] = some [v, (finL (w.map f)).sum] := rfl
    refine ⟨some (.lst ((w.map f).map wD)), some (.bl (ldC f s w)), some (.int (finL (w.map f)).sum), ?_⟩
    have hcond : (dAnd (mTru (mVar 6)) (dOr (mTest (mBin dLt (mB dLen (mCons (mVar 4) mNil)) (mC (.int 2)))) (mTest (mBin (dInP true) (mC (.int 0)) (mVar 5))))) [some (nmsD f), some (.str x), some (.cell S.length), some (.lst (strD s)), some (.lst (strD w)), some (.lst ((w.map f).map wD)), some (.bl (ldC f s w)), o7, none, none, none, none] (S ++ [some (.lst (intsD acc))]) = .ok true (S ++ [some (.lst (intsD acc))]) := by
      unfold ldD at hc2
      rw [hc1]
      by_cases hl : (w.length : Int) < 2
      · simp [hlen, hl]
      · rw [decide_eq_false hl, Bool.false_or] at hc2
        have hz : (w.map f).any isZ = false := by simpa using hc2
        rw [hz] at hZ
        simp [-List.map_map, hlen, hl, hZ]
    rw [sIf_s, hcond]
    simp only [ofT_ok, if_true]
    rw [sSeq_s, g3]
    simp [-List.map_map, hg, wD, e7, dMax, hla]
    unfold intsD
    rw [List.map_append]
    rfl
  · rw [if_neg hc]
    have hcond : (dAnd (mTru (mVar 6)) (dOr (mTest (mBin dLt (mB dLen (mCons (mVar 4) mNil)) (mC (.int 2)))) (mTest (mBin (dInP true) (mC (.int 0)) (mVar 5))))) [some (nmsD f), some (.str x), some (.cell S.length), some (.lst (strD s)), some (.lst (strD w)), some (.lst ((w.map f).map wD)), some (.bl (ldC f s w)), o7, none, none, none, none] (S ++ [some (.lst (intsD acc))]) = .ok false (S ++ [some (.lst (intsD acc))]) := by
      cases hc1 : ldC f s w with
      | false => simp
      | true =>
        rw [hc1, Bool.true_and] at hc
        unfold ldD at hc
        by_cases hl : (w.length : Int) < 2
        · simp [hl] at hc
        · rw [decide_eq_false hl, Bool.false_or] at hc
          have hz : (w.map f).any isZ = true := by simpa using hc
          rw [hz] at hZ
          simp [-List.map_map, hlen, hl, hZ]
    refine ⟨some (.lst ((w.map f).map wD)), some (.bl (ldC f s w)), o7, ?_⟩
    rw [sIf_s, hcond]
    simp
def ldR (f : Str → Wo) (v : Int) (L : List (List Str × List Str)) : List Int := L.filterMap fun w => ld f v w.1 w.2
def wOk (w : List Str × List Str) : Bool := (w.1.all fun x => decide (x ∈ nms)) && ((w.2.all fun x => decide (x ∈ nms)) && (decide (w.1.length ≤ 1000) && decide (w.2.length ≤ 2)))
theorem lf_loop {f : Str → Wo} {x : Str} {v : Int} {S : Sto} (hx : x ∈ nms) (hv : f x = .fin v) : ∀ {L : List (List Str × List Str)} {acc : List Int} {o3 o4 o5 o6 o7 : Option Dat}, (∀ w ∈ L, wOk w = true) → acc.length + L.length ≤ 500 →
    ∃ p3 p4 p5 p6 p7, forL (gTL (gC (gN 3) (gC (gN 4) gZ))) b__law_first_1 (L.map lwT) [some (nmsD f), some (.str x), some (.cell S.length), o3, o4, o5, o6, o7, none, none, none, none] (S ++ [some (.lst (intsD acc))]) =
      .nx [some (nmsD f), some (.str x), some (.cell S.length), p3, p4, p5, p6, p7, none, none, none, none] (S ++ [some (.lst (intsD (acc ++ ldR f v L)))])
  | [], acc, o3, o4, o5, o6, o7, _, _ => ⟨o3, o4, o5, o6, o7, by simp [ldR]⟩
  | w :: L, acc, o3, o4, o5, o6, o7, h, hl => by
    have hw := h w List.mem_cons_self
    unfold wOk at hw
    simp only [Bool.and_eq_true, List.all_eq_true, decide_eq_true_eq] at hw
    rw [List.length_cons] at hl
    obtain ⟨p5, p6, p7, hb⟩ := lf_body (S := S) (acc := acc) (o3 := o3) (o4 := o4) (o5 := o5) (o6 := o6) (o7 := o7) hx hv hw.1 hw.2.1 hw.2.2.1 (by omega) (by omega)
    have hlen : (acc ++ (ld f v w.1 w.2).toList).length ≤ acc.length + 1 := by
      rw [List.length_append]
      cases ld f v w.1 w.2 <;> simp
    obtain ⟨q3, q4, q5, q6, q7, ih⟩ := lf_loop (S := S) hx hv (L := L) (acc := acc ++ (ld f v w.1 w.2).toList) (o3 := some (.lst (strD w.1))) (o4 := some (.lst (strD w.2))) (o5 := p5) (o6 := p6) (o7 := p7) (fun y hy => h y (List.mem_cons_of_mem _ hy)) (by omega)
    refine ⟨q3, q4, q5, q6, q7, (forL_nx rfl hb).trans (ih.trans ?_)⟩
    have e : acc ++ (ld f v w.1 w.2).toList ++ ldR f v L = acc ++ ldR f v (w :: L) := by
      unfold ldR
      rw [List.filterMap_cons, List.append_assoc]
      cases ld f v w.1 w.2 <;> rfl
    rw [e]
theorem minI_perm {xs ys : List Int} (h : xs.Perm ys) : minI xs = minI ys := by
  by_cases hx : xs = []
  · subst hx
    rw [List.nil_perm.mp h]
  · have hy : ys ≠ [] := fun z => hx (by subst z; exact List.perm_nil.mp h)
    exact Int.le_antisymm (minI_le (h.mem_iff.mpr (minI_mem hy))) (minI_le (h.mem_iff.mp (minI_mem hx)))
theorem resW_snd {f : Str → Wo} {v : Int} {x : Str} : ∀ {ws : List Way}, (∀ w ∈ ws, w.2.2.length ≤ 2) → (resW f v x ws).map (·.2) = ldR f v ((ws.filter fun w => decide (x ∈ w.1)).map (·.2))
  | [], _ => rfl
  | w :: ws, h => by
    have ih := resW_snd (f := f) (v := v) (x := x) (ws := ws) fun y hy => h y (List.mem_cons_of_mem _ hy)
    unfold resW ldR at ih ⊢
    rw [List.filterMap_cons]
    by_cases hx : x ∈ w.1
    · rw [if_pos hx, List.filter_cons_of_pos (by simpa using hx), List.map_cons, List.filterMap_cons, ld_wd (h w List.mem_cons_self)]
      cases wd f v w.2.1 w.2.2 with
      | none => exact ih
      | some d =>
        show d :: _ = d :: _
        rw [ih]
    · rw [if_neg hx, List.filter_cons_of_neg (by simpa using hx)]
      exact ih
theorem lways_ok {x : Str} : ∀ w ∈ lways x, wOk w = true := by
  intro w hw
  unfold lways at hw
  obtain ⟨y, hy, rfl⟩ := List.mem_map.mp hw
  have hy := (List.mem_filter.mp hy).1
  have h : waysL.all (fun w => wOk w.2) = true := by decide +kernel
  exact List.all_eq_true.mp h y hy
theorem law_first_eq {f : Str → Wo} {x : Str} {S : Sto} (hx : x ∈ nms) : m__law_first [nmsD f, .str x] S = .ok (oD (firstW f x)) S := by
  have hg := get_eq (f := f) (S := S) hx
  have hi : inP (.str x) (.lst [.str "reuse", .str "move"]) S = some (decide (x ∈ freeX)) := inP_strs (l := freeX) rfl
  have nco : nc (oD (firstW f x)) = true := by
    cases firstW f x <;> rfl
  cases hv : f x with
  | ever =>
    rw [hv] at hg
    refine mDef_rt (S1 := S) rfl ?_ nco take_all
    have e : firstW f x = none := by
      unfold firstW waysR
      rw [hv]
      rfl
    rw [e]
    simp [s__law_first, hg, wD, oD]
  | fin v =>
    rw [hv] at hg
    by_cases h0 : v = 0 ∧ x ∉ freeX
    · have e : firstW f x = some 1 := by
        unfold firstW waysR
        rw [hv]
        simp only [if_pos h0]
        rfl
      refine mDef_rt (S1 := S) rfl ?_ nco take_all
      rw [e]
      simp [s__law_first, hg, wD, hi, h0.1, h0.2, oD]
    · have ew : waysR f x = resW f v x waysL := by
        unfold waysR
        rw [hv]
        exact if_neg h0
      obtain ⟨L, hp, hL⟩ := lways_eq hx
      have hok : ∀ w ∈ L, wOk w = true := fun w hw => lways_ok w (hp.mem_iff.mp hw)
      have hlen : L.length ≤ 100 := by
        rw [hp.length_eq]
        unfold lways
        rw [List.length_map]
        exact Nat.le_trans (List.length_filter_le _ _) (by decide)
      obtain ⟨p3, p4, p5, p6, p7, hloop⟩ := lf_loop (S := S) hx hv (L := L) (acc := []) (o3 := none) (o4 := none) (o5 := none) (o6 := none) (o7 := none) hok (by simp; omega)
      rw [List.nil_append] at hloop
      have hperm : (ldR f v L).Perm ((waysR f x).map (·.2)) := by
        rw [ew, resW_snd (by decide +kernel)]
        exact hp.filterMap _
      have hres : (if (ldR f v L).isEmpty = true then none else some (minI (ldR f v L))) = firstW f x := by
        unfold firstW
        rw [minI_perm hperm]
        have e : (ldR f v L).isEmpty = (waysR f x).isEmpty := by
          have := hperm.length_eq
          rw [List.length_map] at this
          rw [Bool.eq_iff_iff, List.isEmpty_iff_length_eq_zero, List.isEmpty_iff_length_eq_zero, this]
        rw [e]
      have hll : (intsD (ldR f v L)).length ≤ 100000 := by
        unfold intsD ldR
        rw [List.length_map]
        exact Nat.le_trans (List.length_filterMap_le _ _) (by omega)
      have hlc : ∀ env : JL.Env, env.length = 12 → lcL (gN 9) tYesM (mB dInt (mCons (mVar 9) mNil)) env (intsD (ldR f v L)) (S ++ [none]) = .ok ((intsD (ldR f v L)).map id) (S ++ [none]) := fun env hl => lcL_map fun d hd => by
        obtain ⟨i, _, rfl⟩ := List.mem_map.mp hd
        refine ⟨_, rfl, ?_, rfl⟩
        have e8 : (env.set 9 (some (.int i)))[9]? = some (some (.int i)) := List.getElem?_set_self (by omega)
        simp [e8]
      refine mDef_rt (S1 := S ++ [none]) rfl ?_ nco (by simp)
      show s__law_first [some (nmsD f), some (.str x), none, none, none, none, none, none, none, none, none, none] S = _
      have fin : (sFrz 2 (sRet (mIf (mTru (mVar 2)) (mB dMin (mCons (mLc (miE itP (mVar 2)) (gN 9) tYesM (mB dInt (mCons (mVar 9) mNil)) [9]) mNil)) (mC .non)))) [some (nmsD f), some (.str x), some (.cell S.length), p3, p4, p5, p6, p7, none, none, none, none] (S ++ [some (.lst (intsD (ldR f v L)))]) = .rt (oD (firstW f x)) (S ++ [none]) := by
        rw [frz_last rfl]
        simp only [List.map_cons, List.map_nil, Option.map_some, Option.map_none, unCell_same]
        simp only [sRet_s, mIf_s, mTru_s, mVar_s, List.getElem?_cons_zero, List.getElem?_cons_succ, bind_ok, tru_lst, mB_s, mCons_s, mLc_s, miE_s, itP_lst, hll, if_true, wipeE_cons, wipeE_nil, List.set_cons_succ, List.set_cons_zero, mC_s]
        rw [hlc _ rfl, List.map_id]
        simp only [bind_ok, mNil_s, dMin, dL1_s, lstOf_lst, Option.bind_some, intsD_of]
        rw [← hres]
        cases hq : ldR f v L with
        | nil => rfl
        | cons a r => rfl
      by_cases h1 : v = 0
      · have h2 : x ∈ freeX := by
          by_cases h3 : x ∈ freeX
          · exact h3
          · exact absurd ⟨h1, h3⟩ h0
        subst h1
        have hloop : forL (gTL (gC (gN 3) (gC (gN 4) gZ))) b__law_first_1 (L.map lwT) [some (nmsD f), some (.str x), some (.cell S.length), none, none, none, none, none, none, none, none, none] (S ++ [some (.lst [])]) = _ := hloop
        simp [s__law_first, hg, wD, hi, h2, hL]
        rw [hloop]
        exact fin
      · have hloop : forL (gTL (gC (gN 3) (gC (gN 4) gZ))) b__law_first_1 (L.map lwT) [some (nmsD f), some (.str x), some (.cell S.length), none, none, none, none, none, none, none, none, none] (S ++ [some (.lst [])]) = _ := hloop
        simp [s__law_first, hg, wD, h1, hL]
        rw [hloop]
        exact fin
theorem wD_fin {n : Int} : wD (.fin n) = .int n := rfl
theorem wD_ever : wD .ever = .str "ever" := rfl
theorem safe_loop {f : Str → Wo} {b a : Wo} {S : Sto} (hb : nn b) (ha : nn a) : ∀ {xs : List Str} {o3 o4 o5 : Option Dat}, (∀ x ∈ xs, x ∈ nms) →
    ∃ p3 p4 p5, forL (gN 3) b__law_safe_1 (strD xs) [some (nmsD f), some (wD b), some (wD a), o3, o4, o5] S = if xs.all (okx f b a) = true then .nx [some (nmsD f), some (wD b), some (wD a), p3, p4, p5] S else .rt (.bl false) S
  | [], o3, o4, o5, _ => ⟨o3, o4, o5, rfl⟩
  | x :: xs, o3, o4, o5, h => by
    have hf := law_first_eq (f := f) (S := S) (h x List.mem_cons_self)
    have hw := law_wanted_eq (x := x) (S := S) hb ha
    rw [List.all_cons]
    have go : okx f b a x = true → b__law_safe_1 [some (nmsD f), some (wD b), some (wD a), some (.str x), o4, o5] S = .nx [some (nmsD f), some (wD b), some (wD a), some (.str x), some (oD (firstW f x)), some (wD (wantW b a x))] S := fun hk => by
      unfold okx at hk
      cases hd : firstW f x with
      | none =>
        rw [hd] at hf
        simp [b__law_safe_1, hf, hw, oD]
      | some d =>
        rw [hd] at hf hk
        simp only at hk
        cases hv : wantW b a x with
        | ever => rw [hv] at hk; cases hk
        | fin n =>
          rw [hv] at hk hw
          have hk : n < d := of_decide_eq_true hk
          have : ¬ d ≤ n := by omega
          simp [b__law_safe_1, hf, hw, oD, wD_fin, this]
    have stop : okx f b a x = false → b__law_safe_1 [some (nmsD f), some (wD b), some (wD a), some (.str x), o4, o5] S = .rt (.bl false) S := fun hk => by
      unfold okx at hk
      cases hd : firstW f x with
      | none => rw [hd] at hk; cases hk
      | some d =>
        rw [hd] at hf hk
        simp only at hk
        cases hv : wantW b a x with
        | ever =>
          rw [hv] at hw
          simp [b__law_safe_1, hf, hw, oD, wD_ever]
        | fin n =>
          rw [hv] at hk hw
          have hk : ¬ n < d := of_decide_eq_false hk
          have : d ≤ n := by omega
          simp [b__law_safe_1, hf, hw, oD, wD_fin, this]
    cases hk : okx f b a x with
    | true =>
      obtain ⟨p3, p4, p5, ih⟩ := safe_loop (f := f) (S := S) hb ha (xs := xs) (o3 := some (.str x)) (o4 := some (oD (firstW f x))) (o5 := some (wD (wantW b a x))) fun y hy => h y (List.mem_cons_of_mem _ hy)
      rw [Bool.true_and]
      exact ⟨p3, p4, p5, (forL_nx rfl (go hk)).trans ih⟩
    | false => exact ⟨none, none, none, (forL_rt rfl (stop hk)).trans rfl⟩
theorem safe_eq {f : Str → Wo} {b a : Wo} {S : Sto} (hb : nn b) (ha : nn a) : m__law_safe [nmsD f, wD b, wD a] S = .ok (.bl (enough f b a)) S := by
  obtain ⟨p3, p4, p5, h⟩ := safe_loop (f := f) (S := S) hb ha (xs := nms) (o3 := none) (o4 := none) (o5 := none) fun _ h => h
  refine mDef_rt (S1 := S) rfl ?_ rfl take_all
  show s__law_safe [some (nmsD f), some (wD b), some (wD a), none, none, none] S = _
  unfold s__law_safe
  have he : enough f b a = nms.all (okx f b a) := rfl
  rw [← he] at h
  simp only [sSeq_s, sFor_s, miE_s, mCall_s, mNil_s, bind_ok, List.append_nil, names_eq, itP_lst, ofA_ok, h]
  cases enough f b a <;> simp
end JK
namespace JK
open PySem PySem.Spec L2 JL
def dists (f : Str → Wo) (x : Str) : List Int := (waysR f x).map (·.2)
theorem okx_all {f : Str → Wo} {b a : Wo} {x : Str} : okx f b a x = (dists f x).all fun d => wgt (.fin d) (wantW b a x) := by
  have hf : firstW f x = if (dists f x).isEmpty = true then none else some (minI (dists f x)) := by
    unfold firstW dists
    rw [List.isEmpty_map]
  generalize dists f x = l at *
  unfold okx
  rw [hf]
  cases l with
  | nil => rfl
  | cons d r =>
    show wgt (.fin (minI (d :: r))) (wantW b a x) = _
    cases hw : wantW b a x with
    | ever => rfl
    | fin t =>
      rw [Bool.eq_iff_iff, List.all_eq_true]
      constructor
      · intro h y hy
        have h : t < minI (d :: r) := of_decide_eq_true h
        exact decide_eq_true (Int.lt_of_lt_of_le h (minI_le hy))
      · intro h
        exact h _ (minI_mem (by simp))
def kk (M : List Str) (w : List Str) : Nat := (w.filter fun y => decide (y ∉ M)).length
def opn (M : List Str) (s w : List Str) : Bool := (s.all fun y => decide (y ∈ M)) && !(decide ((w.length : Int) = 2) && w.any fun y => decide (y ∈ M))
theorem perm_in {M : List Str} {l : Wo} {y : Str} (h : y ∈ M) : permF M l y = .fin 0 := if_pos h
theorem perm_out {M : List Str} {l : Wo} {y : Str} (h : y ∉ M) : permF M l y = l := if_neg h
theorem isZ_perm {M : List Str} {n : Int} {y : Str} (hn : 1 ≤ n) : isZ (permF M (.fin n) y) = decide (y ∈ M) := by
  by_cases h : y ∈ M
  · rw [perm_in h]
    simp [isZ, h]
  · rw [perm_out h]
    have : ¬ n = 0 := by omega
    simp [isZ, h, this]
theorem isE_perm {M : List Str} {n : Int} : ∀ {w : List Str}, (w.map (permF M (.fin n))).any isE = false
  | [] => rfl
  | y :: w => by
    rw [List.map_cons, List.any_cons, isE_perm]
    by_cases h : y ∈ M
    · rw [perm_in h]; rfl
    · rw [perm_out h]; rfl
theorem sum_perm {M : List Str} {n : Int} : ∀ {w : List Str}, (finL (w.map (permF M (.fin n)))).sum = n * kk M w
  | [] => by simp [finL, kk]
  | y :: w => by
    have ih := sum_perm (M := M) (n := n) (w := w)
    by_cases h : y ∈ M
    · rw [List.map_cons, perm_in h]
      unfold kk at ih ⊢
      rw [List.filter_cons_of_neg (by simpa using h), ← ih]
      simp [finL]
    · rw [List.map_cons, perm_out h]
      unfold kk at ih ⊢
      rw [List.filter_cons_of_pos (by simpa using h), List.length_cons]
      simp only [finL, List.sum_cons, ih]
      push_cast
      rw [Int.mul_add]
      omega
theorem wd_perm {M : List Str} {n v : Int} {s w : List Str} (hn : 1 ≤ n) : wd (permF M (.fin n)) v s w = if opn M s w = true then some ((if n * kk M w < v then v else n * kk M w) + 1) else none := by
  unfold wd opn
  rw [wdW_eq, isE_perm, sum_perm]
  have e1 : (s.any fun y => !isZ (permF M (.fin n) y)) = !(s.all fun y => decide (y ∈ M)) := by
    rw [List.not_all_eq_any_not]
    congr 1
    funext y
    rw [isZ_perm hn]
  have e2 : (w.map (permF M (.fin n))).any isZ = w.any fun y => decide (y ∈ M) := by
    rw [List.any_map]
    congr 1
    funext y
    exact isZ_perm hn
  rw [e1, e2]
  cases (s.all fun y => decide (y ∈ M)) <;> cases decide ((w.length : Int) = 2) <;> cases (w.any fun y => decide (y ∈ M)) <;> simp
theorem want_is {b a : Wo} {x : Str} : wantW b a x = b ∨ wantW b a x = a ∨ wantW b a x = .fin 0 := by
  unfold wantW wmax
  by_cases h1 : x ∈ backL <;> by_cases h2 : x ∈ aheadL <;> simp only [h1, h2, if_true, if_false] <;> split <;> simp
def wayA : Way := (["preset"], ["retire", "add", "ease"], ["need", "offer"])
def wayB : Way := (["preset"], ["need", "drop", "offer"], ["retire", "ease"])
theorem two_ways : ∀ w ∈ waysL, w.2.2.length ≤ 1 ∨ w = wayA ∨ w = wayB := by decide +kernel
theorem free_ways : ∀ w ∈ waysL, ∀ x ∈ freeX, x ∈ w.1 → w.2.2 = [] := by decide +kernel
theorem kk_le {M w : List Str} : kk M w ≤ w.length := List.length_filter_le _ _
theorem dists_one {M : List Str} {n : Int} {x : Str} (h : x ∈ M) (hf : x ∉ freeX) : dists (permF M (.fin n)) x = [1] := by
  unfold dists waysR
  rw [perm_in h]
  show List.map _ (if (0 : Int) = 0 ∧ x ∉ freeX then [([], 1)] else _) = _
  rw [if_pos ⟨rfl, hf⟩]
  rfl
theorem dists_mem {M : List Str} {n d : Int} {x : Str} (hn : 1 ≤ n) (hx : ¬ (x ∈ M ∧ x ∉ freeX)) : d ∈ dists (permF M (.fin n)) x ↔ ∃ w ∈ waysL, x ∈ w.1 ∧ opn M w.2.1 w.2.2 = true ∧ d = (if n * kk M w.2.2 < (if x ∈ M then 0 else n) then (if x ∈ M then 0 else n) else n * kk M w.2.2) + 1 := by
  have e : waysR (permF M (.fin n)) x = resW (permF M (.fin n)) (if x ∈ M then 0 else n) x waysL := by
    unfold waysR
    by_cases h : x ∈ M
    · rw [perm_in h, if_pos h]
      have hf : ¬ ((0 : Int) = 0 ∧ x ∉ freeX) := fun z => hx ⟨h, z.2⟩
      exact if_neg hf
    · rw [perm_out h, if_neg h]
      have hf : ¬ (n = 0 ∧ x ∉ freeX) := fun z => by have := z.1; omega
      exact if_neg hf
  unfold dists
  rw [e]
  unfold resW
  constructor
  · intro hd
    obtain ⟨p, hp, rfl⟩ := List.mem_map.mp hd
    obtain ⟨w, hw, h1⟩ := List.mem_filterMap.mp hp
    by_cases hx1 : x ∈ w.1
    · rw [if_pos hx1, wd_perm hn] at h1
      by_cases ho : opn M w.2.1 w.2.2 = true
      · rw [if_pos ho] at h1
        cases h1
        exact ⟨w, hw, hx1, ho, rfl⟩
      · rw [if_neg ho] at h1
        cases h1
    · rw [if_neg hx1] at h1
      cases h1
  · rintro ⟨w, hw, hx1, ho, rfl⟩
    refine List.mem_map.mpr ⟨(w.2.1, _), List.mem_filterMap.mpr ⟨w, hw, ?_⟩, rfl⟩
    rw [if_pos hx1, wd_perm hn, if_pos ho]
    rfl
theorem one_zero {M : List Str} {n : Int} {b a : Wo} {x : Str} (hx : x ∈ nms) (h : enough (permF M (.fin n)) b a = true) (hm : x ∈ M) (hf : x ∉ freeX) : wgt (.fin 1) (wantW b a x) = true := by
  have h1 := List.all_eq_true.mp h x hx
  rw [okx_all, dists_one hm hf] at h1
  simpa using h1
theorem zero_of {b : Wo} (hb : nn b) (h : wgt (.fin 1) (wmax b (.fin 0)) = true) : b = .fin 0 := by
  cases b with
  | ever => exact absurd h (by decide)
  | fin n =>
    have hb : 0 ≤ n := hb
    rw [wmax_fin] at h
    have h : (if 0 < n then n else 0) < 1 := of_decide_eq_true h
    congr 1
    split at h <;> omega
theorem zero_of' {a : Wo} (ha : nn a) (h : wgt (.fin 1) (wmax (.fin 0) a) = true) : a = .fin 0 := by
  cases a with
  | ever => exact absurd h (by decide)
  | fin n =>
    have ha : 0 ≤ n := ha
    rw [wmax_fin] at h
    have h : (if n < 0 then 0 else n) < 1 := of_decide_eq_true h
    congr 1
    split at h <;> omega
theorem both_zero {M : List Str} {n : Int} {b a : Wo} {w : Way} (hb : nn b) (ha : nn a) (h : enough (permF M (.fin n)) b a = true) (hw : w = wayA ∨ w = wayB) (ho : opn M w.2.1 w.2.2 = true) : b = .fin 0 ∧ a = .fin 0 := by
  unfold opn at ho
  rw [Bool.and_eq_true, List.all_eq_true] at ho
  rcases hw with rfl | rfl
  · have h1 : (Str.ofString "add") ∈ M := of_decide_eq_true (ho.1 (Str.ofString "add") (by decide))
    have h2 : (Str.ofString "ease") ∈ M := of_decide_eq_true (ho.1 (Str.ofString "ease") (by decide))
    have k1 := one_zero (by decide) h h1 (by decide)
    have k2 := one_zero (by decide) h h2 (by decide)
    have e1 : wantW b a "add" = wmax b (.fin 0) := rfl
    have e2 : wantW b a "ease" = wmax (.fin 0) a := rfl
    rw [e1] at k1
    rw [e2] at k2
    exact ⟨zero_of hb k1, zero_of' ha k2⟩
  · have h1 : (Str.ofString "need") ∈ M := of_decide_eq_true (ho.1 (Str.ofString "need") (by decide))
    have h2 : (Str.ofString "drop") ∈ M := of_decide_eq_true (ho.1 (Str.ofString "drop") (by decide))
    have k1 := one_zero (by decide) h h1 (by decide)
    have k2 := one_zero (by decide) h h2 (by decide)
    have e1 : wantW b a "need" = wmax b (.fin 0) := rfl
    have e2 : wantW b a "drop" = wmax (.fin 0) a := rfl
    rw [e1] at k1
    rw [e2] at k2
    exact ⟨zero_of hb k1, zero_of' ha k2⟩
theorem want_zero {x : Str} : wantW (.fin 0) (.fin 0) x = .fin 0 := by
  rcases want_is (b := .fin 0) (a := .fin 0) (x := x) with h | h | h <;> exact h
/-- from n down to a bound c that no worth parts from n -/
theorem key_mono {M : List Str} {n c : Int} {b a : Wo} (hb : nn b) (ha : nn a) (hc : 1 ≤ c) (hcn : c ≤ n) (h1 : ∀ t, b = .fin t → t ≤ n → t ≤ c) (h2 : ∀ t, a = .fin t → t ≤ n → t ≤ c) (h : enough (permF M (.fin n)) b a = true) : enough (permF M (.fin c)) b a = true := by
  have hn : 1 ≤ n := by omega
  refine List.all_eq_true.mpr fun x hx => ?_
  have hk := List.all_eq_true.mp h x hx
  rw [okx_all] at hk ⊢
  by_cases hxm : x ∈ M ∧ x ∉ freeX
  · rw [dists_one hxm.1 hxm.2] at hk ⊢
    exact hk
  · rw [List.all_eq_true] at hk ⊢
    intro d' hd'
    obtain ⟨w, hw, hx1, ho, rfl⟩ := (dists_mem hc hxm).mp hd'
    have hd := hk _ ((dists_mem hn hxm).mpr ⟨w, hw, hx1, ho, rfl⟩)
    by_cases hm : x ∈ M
    · have hf : x ∈ freeX := by
        by_cases z : x ∈ freeX
        · exact z
        · exact absurd ⟨hm, z⟩ hxm
      have e := free_ways w hw x hf hx1
      rw [e] at hd ⊢
      simpa [kk, hm] using hd
    · rw [if_neg hm] at hd ⊢
      rcases two_ways w hw with hl | h2w
      · have hkk : kk M w.2.2 ≤ 1 := Nat.le_trans kk_le hl
        have hkv : kk M w.2.2 = 0 ∨ kk M w.2.2 = 1 := by omega
        have en : (if n * (kk M w.2.2 : Int) < n then n else n * (kk M w.2.2 : Int)) = n := by
          rcases hkv with z | z <;> rw [z] <;> simp <;> omega
        have ec : (if c * (kk M w.2.2 : Int) < c then c else c * (kk M w.2.2 : Int)) = c := by
          rcases hkv with z | z <;> rw [z] <;> simp <;> omega
        rw [en] at hd
        rw [ec]
        cases hwt : wantW b a x with
        | ever => rw [hwt] at hd; cases hd
        | fin t =>
          rw [hwt] at hd
          have hd : t < n + 1 := of_decide_eq_true hd
          refine decide_eq_true (show t < c + 1 from ?_)
          rcases want_is (b := b) (a := a) (x := x) with z | z | z
          · have := h1 t (z.symm.trans hwt) (by omega)
            omega
          · have := h2 t (z.symm.trans hwt) (by omega)
            omega
          · rw [hwt] at z
            cases z
            omega
      · obtain ⟨rfl, rfl⟩ := both_zero hb ha h h2w ho
        rw [want_zero]
        refine decide_eq_true (show (0 : Int) < _ from ?_)
        have : 0 ≤ c * (kk M w.2.2 : Int) := Int.mul_nonneg (by omega) (by omega)
        split <;> omega
/-! ### the answer is right -/
theorem find_sorted {p : Wo → Bool} : ∀ {l : List Int}, l.Pairwise (· ≤ ·) → (∀ n, (l.map Wo.fin ++ [Wo.ever]).find? p = some (.fin n) → n ∈ l ∧ p (.fin n) = true ∧ ∀ c ∈ l, c < n → p (.fin c) = false) ∧
    ((l.map Wo.fin ++ [Wo.ever]).find? p = some .ever → p .ever = true ∧ ∀ c ∈ l, p (.fin c) = false) ∧ ((l.map Wo.fin ++ [Wo.ever]).find? p = none → p .ever = false)
  | [], _ => by
    refine ⟨fun n h => ?_, fun h => ?_, fun h => ?_⟩
    · have h := List.mem_of_find?_eq_some h
      simp at h
    · exact ⟨List.find?_some h, fun c hc => (nomatch hc)⟩
    · have := List.find?_eq_none.mp h .ever (by simp)
      simpa using this
  | x :: l, hs => by
    obtain ⟨h1, h2⟩ := List.pairwise_cons.mp hs
    obtain ⟨i1, i2, i3⟩ := find_sorted (p := p) h2
    rw [List.map_cons, List.cons_append, List.find?_cons]
    cases hp : p (.fin x) with
    | true =>
      refine ⟨fun n h => ?_, fun h => (nomatch h), fun h => (nomatch h)⟩
      have h : x = n := Wo.fin.inj (Option.some.inj h)
      subst h
      refine ⟨List.mem_cons_self, hp, fun c hc hlt => ?_⟩
      rcases List.mem_cons.mp hc with e | e
      · omega
      · have := h1 c e
        omega
    | false =>
      refine ⟨fun n h => ?_, fun h => ?_, i3⟩
      · obtain ⟨k1, k2, k3⟩ := i1 n h
        refine ⟨List.mem_cons_of_mem _ k1, k2, fun c hc hlt => ?_⟩
        rcases List.mem_cons.mp hc with e | e
        · rw [e]; exact hp
        · exact k3 c e hlt
      · obtain ⟨k1, k2⟩ := i2 h
        refine ⟨k1, fun c hc => ?_⟩
        rcases List.mem_cons.mp hc with e | e
        · rw [e]; exact hp
        · exact k2 c e
def candL (b a : Wo) : List Int := finL [.fin 0, .fin 1, b, a]
theorem cand_of {b a : Wo} {n : Int} (hn : 1 ≤ n) : ∃ c ∈ candL b a, 1 ≤ c ∧ c ≤ n ∧ (∀ t, b = .fin t → t ≤ n → t ≤ c) ∧ (∀ t, a = .fin t → t ≤ n → t ≤ c) := by
  have m1 : (1 : Int) ∈ candL b a := by unfold candL; cases b <;> cases a <;> simp [finL]
  have mb : ∀ t, b = .fin t → t ∈ candL b a := fun t e => by subst e; unfold candL; cases a <;> simp [finL]
  have ma : ∀ t, a = .fin t → t ∈ candL b a := fun t e => by subst e; unfold candL; cases b <;> simp [finL]
  have hb : ∃ c ∈ candL b a, 1 ≤ c ∧ c ≤ n ∧ ∀ t, b = .fin t → t ≤ n → t ≤ c := by
    cases hb : b with
    | ever => exact ⟨1, hb ▸ m1, by omega, hn, fun t e => by cases e⟩
    | fin t =>
      by_cases h : 1 ≤ t ∧ t ≤ n
      · exact ⟨t, hb ▸ mb t hb, h.1, h.2, fun u e _ => by cases e; omega⟩
      · exact ⟨1, hb ▸ m1, by omega, hn, fun u e _ => by cases e; omega⟩
  obtain ⟨c, c1, c2, c3, c4⟩ := hb
  cases ha : a with
  | ever => exact ⟨c, ha ▸ c1, c2, c3, c4, fun t e => by cases e⟩
  | fin t =>
    by_cases h : c ≤ t ∧ t ≤ n
    · refine ⟨t, ha ▸ ma t ha, by omega, h.2, fun u e hu => ?_, fun u e _ => by cases e; omega⟩
      have := c4 u e hu
      omega
    · exact ⟨c, ha ▸ c1, c2, c3, c4, fun u e _ => by cases e; omega⟩
theorem cand_nn {b a : Wo} (hb : nn b) (ha : nn a) : ∀ c ∈ candL b a, 0 ≤ c := by
  intro c hc
  unfold candL at hc
  cases b <;> cases a <;> simp [finL] at hc <;> (first | (rcases hc with rfl | rfl | rfl | rfl) | (rcases hc with rfl | rfl | rfl) | (rcases hc with rfl | rfl)) <;> (first | omega | exact hb | exact ha)
theorem not_enough {M : List Str} {b a : Wo} {n m : Int} (hb : nn b) (ha : nn a) (hn : 1 ≤ n) (hnm : n ≤ m) (h : ∀ c ∈ candL b a, c ≤ m → enough (permF M (.fin c)) b a = false) : enough (permF M (.fin n)) b a = false := by
  cases he : enough (permF M (.fin n)) b a with
  | false => rfl
  | true =>
    obtain ⟨c, c1, c2, c3, c4, c5⟩ := cand_of (b := b) (a := a) hn
    have := key_mono hb ha c2 c3 c4 c5 he
    rw [h c c1 (by omega)] at this
    cases this
theorem isi_is {x : Int} {S : Sto} : dIsi isT [.int x, .ty "str"] S = .ok (.bl false) S := by rfl
theorem isi_ii {x : Int} {S : Sto} : dIsi isT [.int x, .ty "int"] S = .ok (.bl true) S := by rfl
theorem isi_ib {x : Int} {S : Sto} : dIsi isT [.int x, .ty "bool"] S = .ok (.bl false) S := by rfl
theorem right_eq {M : List Str} {b a : Wo} {S : Sto} (hb : nn b) (ha : nn a) : m__law_right [oW (leastW M b a), .lst (strD M), wD b, wD a] S = .ok (.bl true) S := by
  have hs : ∀ l : Wo, m__law_safe [nmsD (permF M l), wD b, wD a] S = .ok (.bl (enough (permF M l) b a)) S := fun l => safe_eq hb ha
  have hp : ∀ l : Wo, m__law_permits [.lst (strD M), wD l] S = .ok (nmsD (permF M l)) S := fun l => permits_eq
  obtain ⟨f1, f2, f3⟩ := find_sorted (p := fun l => enough (permF M l) b a) (l := srtI (candL b a)) srtI_sorted
  have hl : lastsR b a = (srtI (candL b a)).map Wo.fin ++ [.ever] := rfl
  have hmem : ∀ c, c ∈ candL b a ↔ c ∈ srtI (candL b a) := fun c => srtI_perm.mem_iff.symm
  refine mDef_rt (S1 := S) rfl ?_ rfl take_all
  cases ho : leastW M b a with
  | none =>
    unfold leastW at ho
    rw [hl] at ho
    have he := f3 ho
    have hp := hp .ever
    have hs := hs .ever
    rw [he] at hs
    rw [wD_ever] at hp
    simp [s__law_right, oW, hp, hs]
  | some l =>
    unfold leastW at ho
    rw [hl] at ho
    cases l with
    | ever =>
      obtain ⟨k1, k2⟩ := f2 ho
      have hp1 := hp .ever
      have hs1 := hs .ever
      have hp2 := hp (.fin (10 ^ 31))
      have hs2 := hs (.fin (10 ^ 31))
      rw [k1] at hs1
      rw [not_enough (m := 10 ^ 31) hb ha (by decide) (Int.le_refl _) fun c hc _ => k2 c ((hmem c).mp hc)] at hs2
      rw [wD_ever] at hp1
      rw [wD_fin] at hp2
      have e31 : dPow (.int 10) (.int 31) S = .ok (.int (10 ^ 31)) S := rfl
      simp only [s__law_right, oW, wD_ever, sSeq_s, sIf_s, mTest_s, mIsN_s, mVar_s, List.getElem?_cons_zero, List.getElem?_cons_succ, List.map_cons, List.map_nil, List.length_cons, List.length_nil, List.cons_append, List.replicate, List.nil_append, bind_ok, isNon_str, ofT_ok, Bool.false_eq_true, if_false, sSkip_s, mTru_s, mB_s, mCons_s, mC_s, mNil_s, isi_ss, tru_bl, if_true, sSet_s, mCall_s, mBin_s, e31, List.append_nil, hp2, ofE_ok, List.set_cons_succ, List.set_cons_zero, sRet_s, mAnd_s, dEqP_str, decide_true, hp1, hs1, mNot_s, hs2, Bool.not_false]
    | fin n =>
      obtain ⟨k1, k2, k3⟩ := f1 n ho
      have hn0 : 0 ≤ n := cand_nn hb ha n ((hmem n).mpr k1)
      have hp1 := hp (.fin n)
      have hs1 := hs (.fin n)
      have hp2 := hp (.fin (n - 1))
      have hs2 := hs (.fin (n - 1))
      rw [k2] at hs1
      rw [wD_fin] at hp1 hp2
      by_cases h0 : n = 0
      · subst h0
        simp [s__law_right, oW, wD_fin, isi_is, isi_ii, isi_ib, hp1, hs1]
      · have hne : enough (permF M (.fin (n - 1))) b a = false := by
          by_cases h1 : n - 1 = 0
          · rw [h1]
            exact k3 0 ((hmem 0).mp (by unfold candL; simp [finL])) (by omega)
          · exact not_enough (m := n - 1) hb ha (by omega) (Int.le_refl _) fun c hc hle => k3 c ((hmem c).mp hc) (by omega)
        rw [hne] at hs2
        have hlt : ¬ n < 0 := by omega
        simp [s__law_right, oW, wD_fin, isi_is, isi_ii, isi_ib, hp1, hs1, h0, hlt, hp2, hs2]
end JK
namespace JK
open PySem PySem.Spec L2 JL
theorem mDef_rtC {np N : Nat} {body : DS} {ds : List Dat} {l : Nat} {S S1 : Sto} (hl : ds.length = np) (h : body (ds.map some ++ List.replicate (N - ds.length) none) S = .rt (.cell l) S1) : mDef np N body ds S = .ok (.cell l) S1 := by
  unfold mDef
  rw [if_pos hl]
  unfold mFn
  rw [h]
  rfl
theorem mDef_rtS {np N : Nat} {body : DS} {ds : List Dat} {d : Dat} {S S1 : Sto} (hl : ds.length = np) (h : body (ds.map some ++ List.replicate (N - ds.length) none) S = .rt d S1) (hn : nc d = true) (hS : S1.length = S.length) : mDef np N body ds S = .ok d S1 := by
  unfold mDef
  rw [if_pos hl]
  unfold mFn
  rw [h]
  cases d with
  | cell l => cases hn
  | _ => show Out.ok _ (S1.take S.length) = _; rw [← hS, List.take_length]
theorem atI_ok {α : Type} {l : List α} {i : Int} (h0 : 0 ≤ i) (h1 : i < l.length) : ∃ x ∈ l, L2.atI l i = some x ∧ l[i.toNat]? = some x := by
  have hn : i.toNat < l.length := by omega
  refine ⟨l[i.toNat], List.getElem_mem hn, ?_, List.getElem?_eq_getElem hn⟩
  unfold L2.atI ixN
  simp only [h0, h1, and_self, if_true, Option.bind_some]
  exact List.getElem?_eq_getElem hn
structure DeckOk (N : Int) (A B t n : Int) : Prop where
  a0 : 0 ≤ A
  b0 : 0 ≤ B
  b1 : B < 2305843009213693951
  t0 : 0 ≤ t
  t1 : t < 16
  n0 : 0 ≤ n
  n1 : n ≤ N
def deckD (A B t n : Int) : Dat := .lst [.int A, .int B, .int t, .int n]
theorem pow18 {S : Sto} : dPow (.int 10) (.int 18) S = .ok (.int (10 ^ 18)) S := rfl
theorem deck_eq {ns : List Int} {i : Int} {S : Sto} (h0 : 0 ≤ i) (h1 : i < 16) : ∃ A B t n, DeckOk 0 A B t n ∧ m__law_deck [.rol (ns.map .int), .int i] S = .ok (.cell S.length) (S ++ [some (deckD A B t n)]) := by
  have cellv : ∃ c : Int, (mIf (mTest (mBin dLt (mVar 1) (mB dLen (mCons (mVar 0) mNil)))) (mB dInt (mCons (mBin dIx (mVar 0) (mVar 1)) mNil)) (mC (.int 0))) [some (.rol (ns.map .int)), some (.int i), none] S = .ok (.int c) S := by
    by_cases hl : i < (ns.length : Int)
    · have hl2 : i < ((ns.map Dat.int).length : Int) := by rw [List.length_map]; exact hl
      obtain ⟨x, hx, h3, _⟩ := atI_ok (l := ns.map Dat.int) h0 hl2
      obtain ⟨c, _, rfl⟩ := List.mem_map.mp hx
      exact ⟨c, by simp [hl, h3]⟩
    · exact ⟨0, by simp [hl]⟩
  obtain ⟨c, hc⟩ := cellv
  have p18 : powOk 10 18 = true := by decide
  refine ⟨if (if c < 0 then -c else c) ≥ 10 ^ 18 then (if c < 0 then -c else c) else 0, c % 2305843009213693951, i, 0, ⟨?_, Int.emod_nonneg _ (by decide), Int.emod_lt_of_pos _ (by decide), h0, h1, Int.le_refl _, Int.le_refl _⟩, ?_⟩
  · have h : (0 : Int) ≤ if c < 0 then -c else c := by split <;> omega
    generalize (if c < 0 then -c else c) = z at h ⊢
    split
    · exact h
    · exact Int.le_refl _
  · refine mDef_rtC rfl ?_
    show s__law_deck [some (.rol (ns.map .int)), some (.int i), none] S = _
    unfold s__law_deck
    rw [sSeq_s, sSet_s, hc]
    by_cases hb : (if c < 0 then -c else c) ≥ 10 ^ 18
    · have hb2 : (10 : Int) ^ 18 ≤ if c < 0 then -c else c := hb
      simp [dAbs, p18, hb2, deckD, -Int.reducePow]
    · have hb2 : ¬ (10 : Int) ^ 18 ≤ if c < 0 then -c else c := hb
      simp [dAbs, p18, hb2, deckD, -Int.reducePow]
section
variable {S : Sto} {l : Nat} {A B t n : Int}
theorem dk0 (h : S[l]? = some (some (deckD A B t n))) : dIx (.cell l) (.int 0) S = .ok (.int A) S := by rw [dIx_s, seqOf_cell h]; rfl
theorem dk1 (h : S[l]? = some (some (deckD A B t n))) : dIx (.cell l) (.int 1) S = .ok (.int B) S := by rw [dIx_s, seqOf_cell h]; rfl
theorem dk2 (h : S[l]? = some (some (deckD A B t n))) : dIx (.cell l) (.int 2) S = .ok (.int t) S := by rw [dIx_s, seqOf_cell h]; rfl
theorem dk3 (h : S[l]? = some (some (deckD A B t n))) : dIx (.cell l) (.int 3) S = .ok (.int n) S := by rw [dIx_s, seqOf_cell h]; rfl
theorem dp0 {v : Int} (h : S[l]? = some (some (deckD A B t n))) : dPut (.cell l) (.int 0) (.int v) S = some (S.set l (some (deckD v B t n))) := by
  unfold dPut
  simp only [h, deckD]
  rfl
theorem dp3 {v : Int} (h : S[l]? = some (some (deckD A B t n))) : dPut (.cell l) (.int 3) (.int v) S = some (S.set l (some (deckD A B t v))) := by
  unfold dPut
  simp only [h, deckD]
  rfl
end
theorem log2_le {n : Int} (h0 : 0 ≤ n) (h : n ≤ 1000) : n.natAbs.log2 ≤ 1000 := Nat.le_trans (Nat.log2_le_self _) (by omega)
theorem draw_eq {S : Sto} {l : Nat} {N A B t n many : Int} (hd : S[l]? = some (some (deckD A B t n))) (ok : DeckOk N A B t n) (hN : N ≤ 900) (hm : 0 < many) (hm2 : many.natAbs.log2 < 9000) :
    ∃ A' B' t' n' r, DeckOk (N + 1) A' B' t' n' ∧ 0 ≤ r ∧ r < many ∧ m__law_draw [.cell l, .int many] S = .ok (.int r) (S.set l (some (deckD A' B' t' n'))) := by
  obtain ⟨a0, b0, b1, t0, t1, n0, n1⟩ := ok
  have hl : l < S.length := (List.getElem?_eq_some_iff.mp hd).1
  have hdiv : divOk A many = true := by
    unfold divOk
    rw [Bool.and_eq_true]
    exact ⟨decide_eq_true hm, decide_eq_true hm2⟩
  by_cases hA : 0 < A
  · refine ⟨A / many, B, t, n, A % many, ⟨Int.ediv_nonneg a0 (Int.le_of_lt hm), b0, b1, t0, t1, n0, by omega⟩, Int.emod_nonneg _ (by omega), Int.emod_lt_of_pos _ hm, ?_⟩
    refine mDef_rtS rfl ?_ rfl (by simp)
    show s__law_draw [some (.cell l), some (.int many), none, none] S = _
    simp [-dIx_s, s__law_draw, dk0 hd, hA, hm, hdiv, dp0 hd]
  · have h1 : (S.set l (some (deckD A B t (n + 1))))[l]? = some (some (deckD A B t (n + 1))) := List.getElem?_set_self hl
    by_cases hB : B = 0
    · subst hB
      refine ⟨A, 0, t, n + 1, (n + 1 + t) % many, ⟨a0, b0, b1, t0, t1, by omega, by omega⟩, Int.emod_nonneg _ (by omega), Int.emod_lt_of_pos _ hm, ?_⟩
      refine mDef_rtS rfl ?_ rfl (by simp)
      show s__law_draw [some (.cell l), some (.int many), none, none] S = _
      simp [-dIx_s, s__law_draw, dk0 hd, hA, hm, dk3 hd, dp3 hd, dk1 h1, dk3 h1, dk2 h1]
    · have lg := log2_le (n := n + 1) (by omega) (by omega)
      have lt := log2_le (n := t) (by omega) (by omega)
      have c1 : mulOk 7368787 (n + 1) = true := decide_eq_true (by
        have : (7368787 : Int).natAbs.log2 ≤ 100 := by decide
        omega)
      have c2 : mulOk 104729 t = true := decide_eq_true (by
        have : (104729 : Int).natAbs.log2 ≤ 100 := by decide
        omega)
      have c3 : mulOk 15485863 (n + 1) = true := decide_eq_true (by
        have : (15485863 : Int).natAbs.log2 ≤ 100 := by decide
        omega)
      have c4 : powOk (B + 7368787 * (n + 1) + 104729 * t) 3 = true := by
        unfold powOk
        rw [Bool.and_eq_true, Bool.and_eq_true]
        exact ⟨by decide, by decide, decide_eq_true (by
          have : (2 : Nat) ^ 64 = 18446744073709551616 := by decide
          omega)⟩
      generalize hM : (B + 7368787 * (n + 1) + 104729 * t) ^ (3 : Int).toNat % 2305843009213693951 = M
      have hM0 : 0 ≤ M := by rw [← hM]; exact Int.emod_nonneg _ (by decide)
      have hM1 : M < 2305843009213693951 := by rw [← hM]; exact Int.emod_lt_of_pos _ (by decide)
      have c5 : powOk (M + 15485863 * (n + 1) + 611953) 2 = true := by
        unfold powOk
        rw [Bool.and_eq_true, Bool.and_eq_true]
        exact ⟨by decide, by decide, decide_eq_true (by
          have : (2 : Nat) ^ 64 = 18446744073709551616 := by decide
          omega)⟩
      have c6 : ∀ z, divOk z 4093 = true := fun z => by
        unfold divOk
        decide
      refine ⟨A, B, t, n + 1, (M + 15485863 * (n + 1) + 611953) ^ (2 : Int).toNat % 1152921504606846883 / 4093 % many, ⟨a0, b0, b1, t0, t1, by omega, by omega⟩, Int.emod_nonneg _ (by omega), Int.emod_lt_of_pos _ hm, ?_⟩
      refine mDef_rtS rfl ?_ rfl (by simp)
      show s__law_draw [some (.cell l), some (.int many), none, none] S = _
      have e1 : (sSet 3 (mBin dMod (mB dInt (mCons (mBin dPow (mBin dAddP (mBin dAddP (mBin dIx (mVar 0) (mC (.int 1))) (mBin dMul (mC (.int 7368787)) (mBin dIx (mVar 0) (mC (.int 3))))) (mBin dMul (mC (.int 104729)) (mBin dIx (mVar 0) (mC (.int 2))))) (mC (.int 3))) mNil)) (mC (.int 2305843009213693951)))) [some (.cell l), some (.int many), none, none] (S.set l (some (deckD A B t (n + 1)))) = .nx [some (.cell l), some (.int many), none, some (.int M)] (S.set l (some (deckD A B t (n + 1)))) := by
        rw [← hM]
        simp only [sSet_s, mBin_s, mB_s, mCons_s, mVar_s, List.getElem?_cons_zero, List.getElem?_cons_succ, bind_ok, mC_s, dk1 h1, dk2 h1, dk3 h1, dI2_int, c1, c2, if_true, dAddP_int, c4, mNil_s, dInt_int, ofE_ok, List.set_cons_succ, List.set_cons_zero, decide_true]
        rfl
      have e2 : (sSet 3 (mBin dMod (mB dInt (mCons (mBin dPow (mBin dAddP (mBin dAddP (mVar 3) (mBin dMul (mC (.int 15485863)) (mBin dIx (mVar 0) (mC (.int 3))))) (mC (.int 611953))) (mC (.int 2))) mNil)) (mC (.int 1152921504606846883)))) [some (.cell l), some (.int many), none, some (.int M)] (S.set l (some (deckD A B t (n + 1)))) = .nx [some (.cell l), some (.int many), none, some (.int ((M + 15485863 * (n + 1) + 611953) ^ (2 : Int).toNat % 1152921504606846883))] (S.set l (some (deckD A B t (n + 1)))) := by
        simp only [sSet_s, mBin_s, mB_s, mCons_s, mVar_s, List.getElem?_cons_zero, List.getElem?_cons_succ, bind_ok, mC_s, dk3 h1, dI2_int, c3, if_true, dAddP_int, c5, mNil_s, dInt_int, ofE_ok, List.set_cons_succ, List.set_cons_zero, decide_true]
        rfl
      unfold s__law_draw
      rw [sSeq_s]
      simp only [sIf_s, mTest_s, mBin_s, mVar_s, List.getElem?_cons_zero, List.getElem?_cons_succ, bind_ok, mC_s, dk0 hd, dI2_int, if_true, decide_eq_false hA, ofT_ok, Bool.false_eq_true, if_false, sSkip_s]
      rw [sSeq_s]
      simp only [sAsgH_s, mBin_s, mVar_s, List.getElem?_cons_zero, List.getElem?_cons_succ, bind_ok, mC_s, dk3 hd, dAddP_int, ofE_ok, hSub_s, okOf_ok, Option.bind_some, dp3 hd, Option.map_some]
      rw [sSeq_s]
      simp only [sIf_s, mTest_s, mBin_s, mVar_s, List.getElem?_cons_zero, List.getElem?_cons_succ, bind_ok, mC_s, dk1 h1, dEqP_int, decide_eq_false hB, ofT_ok, Bool.false_eq_true, if_false, sSkip_s]
      rw [sSeq_s, e1]
      simp only
      rw [sSeq_s, e2]
      simp only [sRet_s, mBin_s, mB_s, mCons_s, mVar_s, List.getElem?_cons_zero, List.getElem?_cons_succ, bind_ok, mC_s, dI2_int, c6, if_true, mNil_s, dInt_int, decide_eq_true hm, ofE_ok]
theorem pick_eq {S : Sto} {l : Nat} {N A B t n : Int} {xs : List Dat} (hd : S[l]? = some (some (deckD A B t n))) (ok : DeckOk N A B t n) (hN : N ≤ 900) (h0 : xs ≠ []) (h1 : xs.length ≤ 1000) (hnc : ∀ x ∈ xs, nc x = true) :
    ∃ A' B' t' n' x, DeckOk (N + 1) A' B' t' n' ∧ x ∈ xs ∧ m__law_pick [.cell l, .lst xs] S = .ok x (S.set l (some (deckD A' B' t' n'))) := by
  have hp : 0 < (xs.length : Int) := by
    cases xs with
    | nil => exact absurd rfl h0
    | cons _ _ => simp
  obtain ⟨A', B', t', n', r, ok', r0, r1, hr⟩ := draw_eq hd ok hN hp (by
    have := Nat.log2_le_self xs.length
    show (xs.length : Nat).log2 < 9000
    omega)
  obtain ⟨x, hx, hi, _⟩ := atI_ok (l := xs) r0 r1
  refine ⟨A', B', t', n', x, ok', hx, ?_⟩
  refine mDef_rtS rfl ?_ (hnc x hx) (by simp)
  show s__law_pick [some (.cell l), some (.lst xs)] S = _
  simp [s__law_pick, hr, hi]
theorem set_set {S : Sto} {l : Nat} {x y : Option Dat} : (S.set l x).set l y = S.set l y := List.set_set ..
theorem wish_eq {S : Sto} {l : Nat} {A B t n : Int} (hd : S[l]? = some (some (deckD A B t n))) (ok : DeckOk 0 A B t n) :
    ∃ A' B' t' n' b a, DeckOk 4 A' B' t' n' ∧ nn b ∧ nn a ∧ m__law_wish [.cell l] S = .ok (.tup [wD b, wD a]) (S.set l (some (deckD A' B' t' n'))) := by
  have hl : l < S.length := (List.getElem?_eq_some_iff.mp hd).1
  have at_ : ∀ {x : Dat}, (S.set l (some x))[l]? = some (some x) := List.getElem?_set_self hl
  obtain ⟨A1, B1, t1, n1, r1, ok1, k1, _, e1⟩ := draw_eq (many := 9) hd ok (by decide) (by decide) (by decide)
  obtain ⟨A2, B2, t2, n2, r2, ok2, k2, _, e2⟩ := draw_eq (many := 10 ^ 30) at_ ok1 (by decide) (by decide) (by decide +kernel)
  have hmem : ∀ x ∈ ([Wo.fin 0, .fin 0, .fin 1, .fin 2, .fin 3, .ever, .ever, .fin (10 ^ 30 - 1), .fin r1, .fin r2].map wD), ∃ w, nn w ∧ x = wD w := fun x hx => by
    obtain ⟨w, hw, rfl⟩ := List.mem_map.mp hx
    refine ⟨w, ?_, rfl⟩
    simp only [List.mem_cons, List.not_mem_nil, or_false] at hw
    rcases hw with rfl | rfl | rfl | rfl | rfl | rfl | rfl | rfl | rfl | rfl
    · exact Int.le_refl _
    · exact Int.le_refl _
    · show (0 : Int) ≤ 1; decide
    · show (0 : Int) ≤ 2; decide
    · show (0 : Int) ≤ 3; decide
    · trivial
    · trivial
    · show (0 : Int) ≤ 10 ^ 30 - 1; decide
    · exact k1
    · exact k2
  obtain ⟨A3, B3, t3, n3, x, ok3, hx, e3⟩ := pick_eq (xs := [Wo.fin 0, .fin 0, .fin 1, .fin 2, .fin 3, .ever, .ever, .fin (10 ^ 30 - 1), .fin r1, .fin r2].map wD) at_ ok2 (by decide) (by simp) (by simp) fun x hx => by obtain ⟨w, _, rfl⟩ := hmem x hx; exact nc_wD
  obtain ⟨A4, B4, t4, n4, y, ok4, hy, e4⟩ := pick_eq (xs := [Wo.fin 0, .fin 0, .fin 1, .fin 2, .fin 3, .ever, .ever, .fin (10 ^ 30 - 1), .fin r1, .fin r2].map wD) at_ ok3 (by decide) (by simp) (by simp) fun x hx => by obtain ⟨w, _, rfl⟩ := hmem x hx; exact nc_wD
  obtain ⟨b, hb, rfl⟩ := hmem x hx
  obtain ⟨a, ha, rfl⟩ := hmem y hy
  rw [set_set] at e2 e3 e4
  refine ⟨A4, B4, t4, n4, b, a, ok4, hb, ha, ?_⟩
  have p30 : ∀ S : Sto, dPow (.int 10) (.int 30) S = .ok (.int (10 ^ 30)) S := fun _ => rfl
  have m30 : ∀ S : Sto, dSub (.int (10 ^ 30)) (.int 1) S = .ok (.int (10 ^ 30 - 1)) S := fun _ => rfl
  have elst : [Wo.fin 0, .fin 0, .fin 1, .fin 2, .fin 3, .ever, .ever, .fin (10 ^ 30 - 1), .fin r1, .fin r2].map wD = [.int 0, .int 0, .int 1, .int 2, .int 3, .str "ever", .str "ever", .int (10 ^ 30 - 1), .int r1, .int r2] := rfl
  rw [elst] at e3 e4
  refine mDef_rtS rfl ?_ rfl (by simp)
  show s__law_wish [some (.cell l), none] S = _
  unfold s__law_wish
  rw [sSeq_s]
  simp only [sSet_s, mLst_s, mCons_s, mC_s, bind_ok, mBin_s, p30, m30, mCall_s, mVar_s, List.getElem?_cons_zero, mNil_s, List.append_nil, e1, e2, List.all_cons, List.all_nil, nc_int, nc_str, Bool.and_true, if_true]
  simp only [ofE_ok, List.set_cons_succ, List.set_cons_zero, sRet_s, mTup_s, mCons_s, mCall_s, mVar_s, List.getElem?_cons_zero, List.getElem?_cons_succ, bind_ok, mNil_s, List.append_nil, e3, e4, List.all_cons, List.all_nil, nc_wD, Bool.and_true, if_true]
/-! ### the wish, made -/
theorem is_depth_eq {w : Wo} {S : Sto} (h : nn w) : m_is_depth [wD w] S = .ok (.bl true) S := by
  refine mDef_rt (S1 := S) rfl ?_ rfl take_all
  cases w with
  | ever =>
    show s_is_depth [some (.str "ever")] S = _
    simp [s_is_depth, isi_ss]
  | fin n =>
    have h : 0 ≤ n := h
    have hi : m_is_integer [.int n] S = .ok (.bl true) S := by
      refine mDef_rt (S1 := S) rfl ?_ rfl take_all
      simp [s_is_integer, isi_ii, isi_ib]
    show s_is_depth [some (.int n)] S = _
    simp [s_is_depth, isi_is, hi, h]
theorem init_eq {b a : Wo} {S : Sto} (hb : nn b) (ha : nn a) : m_Wish_init [.cell S.length, wD b, wD a] (S ++ [some (.ins "Wish" [])]) = .ok .non (S ++ [some (wishD b a)]) := by
  have h : s_Wish_init [some (.cell S.length), some (wD b), some (wD a)] (S ++ [some (.ins "Wish" [])]) = .nx [some (.cell S.length), some (wD b), some (wD a)] (S ++ [some (wishD b a)]) := by
    have d1 := is_depth_eq (S := S ++ [some (.ins "Wish" [])]) hb
    have d2 := is_depth_eq (S := S ++ [some (.ins "Wish" [])]) ha
    have g1 : sFldM "Wish" "back" (mVar 0) (mVar 1) [some (.cell S.length), some (wD b), some (wD a)] (S ++ [some (.ins "Wish" [])]) = .nx [some (.cell S.length), some (wD b), some (wD a)] (S ++ [some (.ins "Wish" [("back", wD b)])]) := by
      unfold sFldM
      simp only [mVar_s, List.getElem?_cons_zero, List.getElem?_cons_succ, ofE_ok, cell_last, set_last]
      rw [if_pos ⟨trivial, nc_wD, by decide⟩]
      rfl
    have g2 : sFldM "Wish" "ahead" (mVar 0) (mVar 2) [some (.cell S.length), some (wD b), some (wD a)] (S ++ [some (.ins "Wish" [("back", wD b)])]) = .nx [some (.cell S.length), some (wD b), some (wD a)] (S ++ [some (wishD b a)]) := by
      unfold sFldM
      simp only [mVar_s, List.getElem?_cons_zero, List.getElem?_cons_succ, ofE_ok, cell_last, set_last]
      rw [if_pos ⟨trivial, nc_wD, by show (1 : Nat) < 1000; decide⟩]
      rfl
    unfold s_Wish_init
    rw [sSeq_s, sIf_s]
    simp only [dNot_s, mTru_s, mCall_s, mCons_s, mVar_s, List.getElem?_cons_zero, List.getElem?_cons_succ, bind_ok, mNil_s, List.append_nil, d1, tru_bl, Bool.not_true, ofT_ok, Bool.false_eq_true, if_false, sSkip_s]
    rw [sSeq_s, sIf_s]
    simp only [dNot_s, mTru_s, mCall_s, mCons_s, mVar_s, List.getElem?_cons_zero, List.getElem?_cons_succ, bind_ok, mNil_s, List.append_nil, d2, tru_bl, Bool.not_true, ofT_ok, Bool.false_eq_true, if_false, sSkip_s]
    rw [sSeq_s, g1]
    simp only
    rw [g2]
  unfold m_Wish_init mDef
  rw [if_pos (show [Dat.cell S.length, wD b, wD a].length = 3 from rfl)]
  unfold mFn
  have h2 : s_Wish_init ([Dat.cell S.length, wD b, wD a].map some ++ List.replicate (3 - [Dat.cell S.length, wD b, wD a].length) none) (S ++ [some (.ins "Wish" [])]) = _ := h
  rw [h2]
  show Out.ok Dat.non _ = _
  have e : (S ++ [some (wishD b a)]).take (S ++ [some (Dat.ins "Wish" [])]).length = S ++ [some (wishD b a)] := by
    rw [List.take_of_length_le]
    simp
  rw [e]
theorem make_end {b a : Wo} {S : Sto} : ((Out.ok Dat.non (S ++ [some (wishD b a)])).bind fun r S3 => match r with
      | .non => (match S3[S.length]? with
        | some (some (.ins D gs)) => if D = "Wish" then Out.ok (Dat.ins "Wish" gs) (S3.take S.length) else .stk
        | _ => .stk)
      | _ => .stk) = .ok (wishD b a) S := by
  simp only [bind_ok, cell_last, wishD, take_last]
  rfl
theorem makeK_eq {mb ma : DE} {env : JL.Env} {b a : Wo} {S : Sto} (hb : nn b) (ha : nn a) (h1 : mb env S = .ok (wD b) S) (h2 : ma env S = .ok (wD a) S) : mMake "Wish" m_Wish_init_K mNil (mCons mb (mCons ma mNil)) env S = .ok (wishD b a) S := by
  unfold mMake
  simp only [mNil_s, bind_ok, mCons_s, h1, h2, List.nil_append]
  have e : m_Wish_init_K [.cell S.length, wD b, wD a] (S ++ [some (.ins "Wish" [])]) = .ok .non (S ++ [some (wishD b a)]) := init_eq hb ha
  rw [e]
  exact make_end
theorem makeZ_eq {env : JL.Env} {S : Sto} : mMake "Wish" m_Wish_init_Z mNil mNil env S = .ok (wishD (.fin 0) (.fin 0)) S := by
  unfold mMake
  simp only [mNil_s, bind_ok, List.nil_append]
  have e : m_Wish_init_Z [.cell S.length] (S ++ [some (.ins "Wish" [])]) = .ok .non (S ++ [some (wishD (.fin 0) (.fin 0))]) := init_eq (b := .fin 0) (a := .fin 0) (Int.le_refl 0) (Int.le_refl 0)
  rw [e]
  exact make_end
end JK
namespace JK
open PySem PySem.Spec L2 JL
section
variable {T : Sto} {l : Nat} {x y : Option Dat}
theorem app_get (h : T[l]? = some x) : (T ++ [y])[l]? = some x := by
  have hl : l < T.length := (List.getElem?_eq_some_iff.mp h).1
  rw [List.getElem?_append_left hl]
  exact h
theorem app_set (h : l < T.length) : (T ++ [y]).set l x = T.set l x ++ [y] := List.set_append_left l _ h
end
theorem last_len {T T' : Sto} {y : Option Dat} (h : T'.length = T.length) : (T' ++ [y])[T.length]? = some y := by
  rw [← h]
  simp
theorem insert_mem {M : List Str} {x : Str} {r : Nat} (h : ∀ y ∈ M, y ∈ nms) (hx : x ∈ nms) : ∀ y ∈ M.take r ++ [x] ++ M.drop r, y ∈ nms := by
  intro y hy
  rcases List.mem_append.mp hy with hy | hy
  · rcases List.mem_append.mp hy with hy | hy
    · exact h y (List.mem_of_mem_take hy)
    · rw [List.mem_singleton.mp hy]; exact hx
  · exact h y (List.mem_of_mem_drop hy)
theorem law_step {T : Sto} {l0 : Nat} {N A B t n : Int} {M : List Str} {x : Str} {b a : Wo} {mild : Bool} {e0 e1 o8 o9 o10 : Option Dat} (hd : T[l0]? = some (some (deckD A B t n))) (ok : DeckOk N A B t n) (hN : N ≤ 800) (hM : ∀ y ∈ M, y ∈ nms) (hl : M.length ≤ 500) (hx : x ∈ nms) (hb : nn b) (ha : nn a) :
    ∃ T' A' B' t' n' M', T'.length = T.length ∧ T'[l0]? = some (some (deckD A' B' t' n')) ∧ DeckOk (N + 2) A' B' t' n' ∧ (∀ y ∈ M', y ∈ nms) ∧ M'.length ≤ M.length + 1 ∧
      b_law_1 [e0, e1, some (.cell l0), some (wD b), some (wD a), some (.cell T.length), some (.bl mild), some (.str x), o8, o9, o10] (T ++ [some (.lst (strD M))]) =
        .nx [e0, e1, some (.cell l0), some (wD b), some (wD a), some (.cell T.length), some (.bl mild), some (.str x), o8, o9, o10] (T' ++ [some (.lst (strD M'))]) := by
  have hl0 : l0 < T.length := (List.getElem?_eq_some_iff.mp hd).1
  obtain ⟨A1, B1, t1, n1, r1, ok1, k1, _, e2⟩ := draw_eq (many := 2) (app_get (y := some (.lst (strD M))) hd) ok (by omega) (by decide) (by decide)
  rw [app_set hl0] at e2
  generalize hT1 : T.set l0 (some (deckD A1 B1 t1 n1)) = T1 at e2
  have len1 : T1.length = T.length := by rw [← hT1]; simp
  have hd1 : T1[l0]? = some (some (deckD A1 B1 t1 n1)) := by rw [← hT1]; exact List.getElem?_set_self hl0
  have ok1' : DeckOk (N + 2) A1 B1 t1 n1 := ⟨ok1.a0, ok1.b0, ok1.b1, ok1.t0, ok1.t1, ok1.n0, by have := ok1.n1; omega⟩
  have skip : (dAnd (mTest (mBin dEqP (mCall m__law_draw (mCons (mVar 2) (mCons (mC (.int 2)) mNil)) mNil) (mC (.int 1)))) (dOr (dNot (mTru (mVar 6))) (mTest (mBin dEqP (mCall m__law_wanted (mCons (mVar 7) (mCons (mVar 3) (mCons (mVar 4) mNil))) mNil) (mC (.int 0)))))) [e0, e1, some (.cell l0), some (wD b), some (wD a), some (.cell T.length), some (.bl mild), some (.str x), o8, o9, o10] (T ++ [some (.lst (strD M))]) = .ok (decide (r1 = 1) && (!mild || isZ (wantW b a x))) (T1 ++ [some (.lst (strD M))]) := by
    have hw := law_wanted_eq (x := x) (S := T1 ++ [some (.lst (strD M))]) hb ha
    by_cases hr : r1 = 1
    · cases mild <;> simp [e2, hr, hw, eq0]
    · simp [e2, hr]
  cases hc : (decide (r1 = 1) && (!mild || isZ (wantW b a x))) with
  | false =>
    rw [hc] at skip
    refine ⟨T1, A1, B1, t1, n1, M, len1, hd1, ok1', hM, Nat.le_succ _, ?_⟩
    unfold b_law_1
    rw [sIf_s, skip]
    rfl
  | true =>
    rw [hc] at skip
    have hlen : 0 < (M.length : Int) + 1 := by omega
    obtain ⟨A2, B2, t2, n2, r2, ok2, k2, k3, e3⟩ := draw_eq (many := (M.length : Int) + 1) (app_get (y := some (.lst (strD M))) hd1) ok1 (by omega) hlen (by
      have := Nat.log2_le_self ((M.length : Int) + 1).natAbs
      omega)
    rw [app_set (by omega)] at e3
    generalize hT2 : T1.set l0 (some (deckD A2 B2 t2 n2)) = T2 at e3
    have len2 : T2.length = T.length := by rw [← hT2, ← len1]; simp
    have hd2 : T2[l0]? = some (some (deckD A2 B2 t2 n2)) := by rw [← hT2]; exact List.getElem?_set_self (by omega)
    have ok2' : DeckOk (N + 2) A2 B2 t2 n2 := ⟨ok2.a0, ok2.b0, ok2.b1, ok2.t0, ok2.t1, ok2.n0, by have := ok2.n1; omega⟩
    refine ⟨T2, A2, B2, t2, n2, M.take r2.toNat ++ [x] ++ M.drop r2.toNat, len2, hd2, ok2', insert_mem hM hx, by rw [List.length_append, List.length_append, List.length_take, List.length_drop]; simp; omega, ?_⟩
    have q1 : lstOf (.cell T.length) (T1 ++ [some (.lst (strD M))]) = some (strD M) := lstOf_cell (last_len len1)
    have q1s : seqOf (.cell T.length) (T1 ++ [some (.lst (strD M))]) = some (strD M) := q1
    have q2 : lstOf (.cell T.length) (T2 ++ [some (.lst (strD M))]) = some (strD M) := lstOf_cell (last_len len2)
    have hi : fIns T.length [.int r2, .str x] (T2 ++ [some (.lst (strD M))]) = .ok .non (T2 ++ [some (.lst (strD (M.take r2.toNat ++ [x] ++ M.drop r2.toNat)))]) := by
      show (match lstOf (.cell T.length) (T2 ++ [some (.lst (strD M))]) with
        | some xs => if nc (.str x) = true ∧ xs.length < 100000 ∧ 0 ≤ r2 ∧ r2 < 2 ^ 63 then Out.ok Dat.non ((T2 ++ [some (Dat.lst (strD M))]).set T.length (some (Dat.lst (xs.take r2.toNat ++ [Dat.str x] ++ xs.drop r2.toNat)))) else .stk
        | none => .stk) = _
      rw [q2]
      simp only
      rw [if_pos ⟨rfl, by rw [strD_len]; omega, k2, by omega⟩, ← len2, set_last]
      unfold strD
      rw [List.map_append, List.map_append, List.map_take, List.map_drop]
      rfl
    have hsl : (strD M).length = M.length := strD_len
    unfold b_law_1
    rw [sIf_s, skip]
    simp only [ofT_ok, if_true, sDrop_s, mBL_s, mVar_s, List.getElem?_cons_zero, List.getElem?_cons_succ, bind_ok, q1, Option.isSome_some, mCons_s, mCall_s, mBin_s, mB_s, mNil_s, dLen_s, q1s, hsl, mC_s, dAddP_int, List.append_nil, List.cons_append, List.nil_append, e3, hi, ofE_ok]
theorem law_loop1 {l0 : Nat} {b a : Wo} {mild : Bool} {e0 e1 o8 o9 o10 : Option Dat} (hb : nn b) (ha : nn a) : ∀ {xs : List Str} {T : Sto} {N A B t n : Int} {M : List Str} {o7 : Option Dat}, T[l0]? = some (some (deckD A B t n)) → DeckOk N A B t n → N + 2 * xs.length ≤ 700 → (∀ y ∈ M, y ∈ nms) → M.length + xs.length ≤ 400 → (∀ x ∈ xs, x ∈ nms) →
    ∃ T' A' B' t' n' M' p7, T'.length = T.length ∧ T'[l0]? = some (some (deckD A' B' t' n')) ∧ DeckOk 800 A' B' t' n' ∧ (∀ y ∈ M', y ∈ nms) ∧ M'.length ≤ 400 ∧
      forL (gN 7) b_law_1 (strD xs) [e0, e1, some (.cell l0), some (wD b), some (wD a), some (.cell T.length), some (.bl mild), o7, o8, o9, o10] (T ++ [some (.lst (strD M))]) =
        .nx [e0, e1, some (.cell l0), some (wD b), some (wD a), some (.cell T.length), some (.bl mild), p7, o8, o9, o10] (T' ++ [some (.lst (strD M'))])
  | [], T, N, A, B, t, n, M, o7, hd, ok, hN, hM, hl, _ => ⟨T, A, B, t, n, M, o7, rfl, hd, ⟨ok.a0, ok.b0, ok.b1, ok.t0, ok.t1, ok.n0, by have := ok.n1; simp at hN; omega⟩, hM, by simpa using hl, rfl⟩
  | x :: xs, T, N, A, B, t, n, M, o7, hd, ok, hN, hM, hl, hx => by
    rw [List.length_cons] at hN hl
    push_cast at hN
    obtain ⟨T1, A1, B1, t1, n1, M1, f1, f2, f3, f4, f5, f6⟩ := law_step (T := T) (mild := mild) (e0 := e0) (e1 := e1) (o8 := o8) (o9 := o9) (o10 := o10) hd ok (by omega) hM (by omega) (hx x List.mem_cons_self) hb ha
    obtain ⟨T2, A2, B2, t2, n2, M2, p7, g1, g2, g3, g4, g5, g6⟩ := law_loop1 (l0 := l0) (mild := mild) (e0 := e0) (e1 := e1) (o8 := o8) (o9 := o9) (o10 := o10) hb ha (xs := xs) (T := T1) (M := M1) (o7 := some (.str x)) f2 f3 (by omega) f4 (by omega) fun y hy => hx y (List.mem_cons_of_mem _ hy)
    refine ⟨T2, A2, B2, t2, n2, M2, p7, g1.trans f1, g2, g3, g4, g5, ?_⟩
    rw [f1] at g6
    exact (forL_nx rfl f6).trans g6
/-! ### what is compared -/
theorem py_strs : ∀ {M : List Str}, pyAll (strD M) = some (M.map .str)
  | [] => rfl
  | x :: M => by
    show (pyOf (.str x)).bind (fun a => (pyAll (strD M)).map fun b => a :: b) = _
    rw [py_strs]
    rfl
theorem eqv_strs : ∀ {M : List Str}, PyData.eqvAll (M.map .str) (M.map .str) = true
  | [] => by simp [PyData.eqvAll]
  | x :: M => by
    rw [List.map_cons]
    simp [PyData.eqvAll, PyData.eqv, eqv_strs]
theorem lay_strs : ∀ {M : List Str}, (∀ x ∈ M, x ∈ nms) → PyData.canLayAll0 (M.map .str) = true ∧ PyData.depthAll (M.map .str) ≤ 1
  | [], _ => by simp [PyData.canLayAll0, PyData.depthAll]
  | x :: M, h => by
    obtain ⟨h1, h2⟩ := lay_strs (M := M) fun y hy => h y (List.mem_cons_of_mem _ hy)
    have h3 : nms.all (fun x => PyData.strOk x) = true := by decide +kernel
    have h4 := List.all_eq_true.mp h3 x (h x List.mem_cons_self)
    rw [List.map_cons]
    simp [PyData.canLayAll0, PyData.canLay0, PyData.depthAll, PyData.depth, h1, h2, h4]
theorem shaped_strs {M : List Str} (h : ∀ x ∈ M, x ∈ nms) : SeqAt.shaped (.list (M.map .str)) = true := by
  obtain ⟨h1, h2⟩ := lay_strs h
  unfold SeqAt.shaped
  rw [Bool.and_eq_true]
  refine ⟨by simp [PyData.canLay0, h1], decide_eq_true ?_⟩
  have e : PyData.depth (.list (M.map .str)) = PyData.depthAll (M.map .str) + 1 := by simp [PyData.depth]
  rw [e]
  omega
theorem ne_strs {M : List Str} {S : Sto} (h : ∀ x ∈ M, x ∈ nms) : dNeP (.lst (strD M)) (.lst (strD M)) S = .ok (.bl false) S := by
  have e : eqP (.lst (strD M)) (.lst (strD M)) S = some true := by
    have e1 : pyOf (.lst (strD M)) = some (.list (M.map .str)) := by
      show (pyAll (strD M)).map PyData.list = _
      rw [py_strs]
      rfl
    have e2 : eqP (.lst (strD M)) (.lst (strD M)) S = (match pyOf (.lst (strD M)), pyOf (.lst (strD M)) with
      | some x, some y => if (SeqAt.shaped x && SeqAt.shaped y) = true then some (PyData.eqv x y) else none
      | _, _ => none) := rfl
    rw [e2, e1]
    simp only [shaped_strs h, Bool.and_self, if_true]
    have e3 : PyData.eqv (.list (M.map .str)) (.list (M.map .str)) = PyData.eqvAll (M.map .str) (M.map .str) := by simp [PyData.eqv]
    rw [e3, eqv_strs]
  unfold dNeP
  rw [e]
  rfl
theorem ne_oW {o : Option Wo} {S : Sto} : dNeP (oW o) (oW o) S = .ok (.bl false) S := by
  cases o with
  | none => rfl
  | some w => cases w with
    | ever => rfl
    | fin n =>
      show Out.ok (Dat.bl (!decide (n = n))) S = _
      simp
def isZ0 (b a : Wo) : Bool := isZ b && isZ a
def pw : Wo → PyData
  | .fin n => .int n
  | .ever => .str "ever"
theorem eq_pair {b a : Wo} {S : Sto} : dEqP (.lst [wD b, wD a]) (.lst [.int 0, .int 0]) S = .ok (.bl (isZ0 b a)) S := by
  have s4 : PyData.strOk "ever" = true := by decide +kernel
  have lay : ∀ w : Wo, PyData.canLay0 (pw w) = true ∧ PyData.depth (pw w) = 0 := fun w => by
    cases w <;> simp [pw, PyData.canLay0, PyData.depth, s4]
  have shp : ∀ b a : Wo, SeqAt.shaped (.list [pw b, pw a]) = true := fun b a => by
    unfold SeqAt.shaped
    simp [PyData.canLay0, PyData.canLayAll0, PyData.depth, PyData.depthAll, (lay b).1, (lay a).1, (lay b).2, (lay a).2]
  have e1 : ∀ b a : Wo, pyOf (.lst [wD b, wD a]) = some (.list [pw b, pw a]) := fun b a => by cases b <;> cases a <;> rfl
  have ev : PyData.eqv (.list [pw b, pw a]) (.list [pw (.fin 0), pw (.fin 0)]) = isZ0 b a := by
    cases b <;> cases a <;> simp [pw, PyData.eqv, PyData.eqvAll, isZ0, isZ, Bool.beq_eq_decide_eq] <;> rfl
  have e : eqP (.lst [wD b, wD a]) (.lst [.int 0, .int 0]) S = some (isZ0 b a) := by
    have e2 : eqP (.lst [wD b, wD a]) (.lst [wD (.fin 0), wD (.fin 0)]) S = (match pyOf (.lst [wD b, wD a]), pyOf (.lst [wD (.fin 0), wD (.fin 0)]) with
      | some x, some y => if (SeqAt.shaped x && SeqAt.shaped y) = true then some (PyData.eqv x y) else none
      | _, _ => none) := rfl
    refine e2.trans ?_
    rw [e1, e1]
    simp only [shp, Bool.and_self, if_true, ev]
  unfold dEqP
  rw [e]
theorem isZ_fin {b : Wo} : isZ b = true ↔ b = .fin 0 := by
  cases b with
  | ever => simp [isZ]
  | fin n => simp [isZ]
theorem perm_zero {M : List Str} : permF M (.fin 0) = fun _ => .fin 0 := by
  funext x
  unfold permF
  split <;> rfl
theorem enough_zero : enough (fun _ => .fin 0) (.fin 0) (.fin 0) = true := by decide +kernel
theorem least_zero {M : List Str} : leastW M (.fin 0) (.fin 0) = some (.fin 0) := by
  have e : lastsR (.fin 0) (.fin 0) = .fin 0 :: [.fin 0, .fin 0, .fin 1, .ever] := by decide +kernel
  unfold leastW
  rw [e, List.find?_cons]
  simp only [perm_zero, enough_zero]
theorem dists_one' {M : List Str} {l : Wo} {x : Str} (h : x ∈ M) (hf : x ∉ freeX) : dists (permF M l) x = [1] := by
  unfold dists waysR
  rw [perm_in h]
  show List.map _ (if (0 : Int) = 0 ∧ x ∉ freeX then [([], 1)] else _) = _
  rw [if_pos ⟨rfl, hf⟩]
  rfl
theorem one_zero' {M : List Str} {l : Wo} {b a : Wo} {x : Str} (hx : x ∈ nms) (h : enough (permF M l) b a = true) (hm : x ∈ M) (hf : x ∉ freeX) : wgt (.fin 1) (wantW b a x) = true := by
  have h1 := List.all_eq_true.mp h x hx
  rw [okx_all, dists_one' hm hf] at h1
  simpa using h1
theorem least_names {b a : Wo} (hb : nn b) (ha : nn a) : leastW nms b a = if isZ0 b a = true then some (.fin 0) else none := by
  unfold isZ0
  by_cases hz : isZ b = true ∧ isZ a = true
  · obtain ⟨z1, z2⟩ := hz
    have e1 := isZ_fin.mp z1
    have e2 := isZ_fin.mp z2
    subst e1 e2
    rw [least_zero]
    rfl
  · rw [if_neg (by rw [Bool.and_eq_true]; exact hz)]
    unfold leastW
    rw [List.find?_eq_none]
    intro l _ h
    have k1 := one_zero' (x := "add") (by decide) h (by decide) (by decide)
    have k2 := one_zero' (x := "drop") (by decide) h (by decide) (by decide)
    have e1 : wantW b a "add" = wmax b (.fin 0) := rfl
    have e2 : wantW b a "drop" = wmax (.fin 0) a := rfl
    rw [e1] at k1
    rw [e2] at k2
    exact hz ⟨isZ_fin.mpr (zero_of hb k1), isZ_fin.mpr (zero_of' ha k2)⟩
theorem least_rev {M : List Str} {b a : Wo} : leastW M.reverse b a = leastW M b a := by
  have e : ∀ l : Wo, permF M.reverse l = permF M l := fun l => by
    funext x
    unfold permF
    simp
  unfold leastW
  simp only [e]
/-! ### a round -/
theorem tail_eq {script : Option Dat} {at_ : Option Dat} {l0 : Nat} {b a : Wo} {M : List Str} {mild o7 o8 o9 o10 : Option Dat} {S : Sto} (hb : nn b) (ha : nn a) (hM : ∀ x ∈ M, x ∈ nms) :
    (sSeq (sPar 8 9 (mCons (mMake "Wish" m_Wish_init_K mNil (mCons (mVar 3) (mCons (mVar 4) mNil))) (mCons (mB dList (mCons (mVar 5) mNil)) mNil))) (sSeq (sSet 10 (mCall m_least_last (mCons (mVar 9) (mCons (mVar 8) mNil)) mNil)) (sSeq (sIf (dOr (dNot (mTru (mCall m__law_right (mCons (mVar 10) (mCons (mVar 5) (mCons (mVar 3) (mCons (mVar 4) mNil)))) mNil))) (dOr (mTest (mBin dNeP (mVar 9) (mVar 5))) (mTest (mBin dNeP (mCall m_least_last (mCons (mRev (mVar 9)) (mCons (mVar 8) mNil)) mNil) (mVar 10))))) (sRet (mC (.bl false))) sSkip) (sSeq (sIf (mTest (mBin dNeP (mCall m_least_last (mCons (mCall m__law_names mNil mNil) (mCons (mVar 8) mNil)) mNil) (mIf (mTest (mBin dEqP (mLst (mCons (mVar 3) (mCons (mVar 4) mNil))) (mLst (mCons (mC (.int 0)) (mCons (mC (.int 0)) mNil))))) (mC (.int 0)) (mC .non)))) (sRet (mC (.bl false))) sSkip) (sIf (dOr (mTest (mBin dNeP (mCall m_least_last (mCons (mLst mNil) (mCons (mMake "Wish" m_Wish_init_Z mNil mNil) mNil)) mNil) (mC (.int 0)))) (mTest (mBin dNeP (mCall m_least_last (mCons (mB dList (mCons (mVar 5) mNil)) (mCons (mVar 8) mNil)) mNil) (mVar 10)))) (sRet (mC (.bl false))) sSkip)))))
      [script, at_, some (.cell l0), some (wD b), some (wD a), some (.lst (strD M)), mild, o7, o8, o9, o10] S =
    .nx [script, at_, some (.cell l0), some (wD b), some (wD a), some (.lst (strD M)), mild, o7, some (wishD b a), some (.lst (strD M)), some (oW (leastW M b a))] S := by
  have g1 : (sPar 8 9 (mCons (mMake "Wish" m_Wish_init_K mNil (mCons (mVar 3) (mCons (mVar 4) mNil))) (mCons (mB dList (mCons (mVar 5) mNil)) mNil))) [script, at_, some (.cell l0), some (wD b), some (wD a), some (.lst (strD M)), mild, o7, o8, o9, o10] S = .nx [script, at_, some (.cell l0), some (wD b), some (wD a), some (.lst (strD M)), mild, o7, some (wishD b a), some (.lst (strD M)), o10] S := by
    have h := makeK_eq (mb := mVar 3) (ma := mVar 4) (env := [script, at_, some (.cell l0), some (wD b), some (wD a), some (.lst (strD M)), mild, o7, o8, o9, o10]) (S := S) hb ha rfl rfl
    rw [sPar_s, mCons_s, h]
    rfl
  have g2 : (sSet 10 (mCall m_least_last (mCons (mVar 9) (mCons (mVar 8) mNil)) mNil)) [script, at_, some (.cell l0), some (wD b), some (wD a), some (.lst (strD M)), mild, o7, some (wishD b a), some (.lst (strD M)), o10] S = .nx [script, at_, some (.cell l0), some (wD b), some (wD a), some (.lst (strD M)), mild, o7, some (wishD b a), some (.lst (strD M)), some (oW (leastW M b a))] S := by
    simp only [sSet_s, mCall_s, mCons_s, mVar_s, List.getElem?_cons_zero, List.getElem?_cons_succ, bind_ok, mNil_s, List.append_nil, least_eq hM, ofE_ok, List.set_cons_succ, List.set_cons_zero]
  have hr : ∀ x ∈ M.reverse, x ∈ nms := fun x hx => hM x (List.mem_reverse.mp hx)
  have lr : m_least_last [.lst (strD M).reverse, wishD b a] S = .ok (oW (leastW M b a)) S := by
    have h := least_eq (M := M.reverse) (b := b) (a := a) (S := S) hr
    rw [least_rev] at h
    unfold strD at h ⊢
    rw [← List.map_reverse]
    exact h
  have ln := least_eq (M := nms) (b := b) (a := a) (S := S) fun x h => h
  rw [least_names hb ha] at ln
  have lz := least_eq (M := []) (b := .fin 0) (a := .fin 0) (S := S) fun x h => (nomatch h)
  rw [least_zero] at lz
  have lz : m_least_last [.lst [], wishD (.fin 0) (.fin 0)] S = .ok (.int 0) S := lz
  rw [sSeq_s, g1]
  simp only
  rw [sSeq_s, g2]
  simp only
  rw [sSeq_s, sIf_s]
  have t1 : (dOr (dNot (mTru (mCall m__law_right (mCons (mVar 10) (mCons (mVar 5) (mCons (mVar 3) (mCons (mVar 4) mNil)))) mNil))) (dOr (mTest (mBin dNeP (mVar 9) (mVar 5))) (mTest (mBin dNeP (mCall m_least_last (mCons (mRev (mVar 9)) (mCons (mVar 8) mNil)) mNil) (mVar 10))))) [script, at_, some (.cell l0), some (wD b), some (wD a), some (.lst (strD M)), mild, o7, some (wishD b a), some (.lst (strD M)), some (oW (leastW M b a))] S = .ok false S := by
    have er : mRev (mVar 9) [script, at_, some (.cell l0), some (wD b), some (wD a), some (.lst (strD M)), mild, o7, some (wishD b a), some (.lst (strD M)), some (oW (leastW M b a))] S = .ok (.lst (strD M).reverse) S := rfl
    simp only [dOr_s, dNot_s, mTru_s, mCall_s, mCons_s, mVar_s, List.getElem?_cons_zero, List.getElem?_cons_succ, bind_ok, mNil_s, List.append_nil, right_eq hb ha, tru_bl, Bool.not_true, Bool.false_eq_true, if_false, mTest_s, mBin_s, ne_strs hM, er, lr, ne_oW]
  rw [t1]
  simp only [ofT_ok, Bool.false_eq_true, if_false, sSkip_s]
  rw [sSeq_s, sIf_s]
  have t2 : (mTest (mBin dNeP (mCall m_least_last (mCons (mCall m__law_names mNil mNil) (mCons (mVar 8) mNil)) mNil) (mIf (mTest (mBin dEqP (mLst (mCons (mVar 3) (mCons (mVar 4) mNil))) (mLst (mCons (mC (.int 0)) (mCons (mC (.int 0)) mNil))))) (mC (.int 0)) (mC .non)))) [script, at_, some (.cell l0), some (wD b), some (wD a), some (.lst (strD M)), mild, o7, some (wishD b a), some (.lst (strD M)), some (oW (leastW M b a))] S = .ok false S := by
    simp only [mTest_s, mBin_s, mCall_s, mCons_s, mNil_s, bind_ok, List.append_nil, names_eq, mVar_s, List.getElem?_cons_zero, List.getElem?_cons_succ, ln, mIf_s, mLst_s, List.all_cons, List.all_nil, nc_wD, Bool.and_true, if_true, mC_s, nc_int, eq_pair]
    cases isZ0 b a <;> rfl
  rw [t2]
  simp only [ofT_ok, Bool.false_eq_true, if_false, sSkip_s]
  rw [sIf_s]
  have t3 : (dOr (mTest (mBin dNeP (mCall m_least_last (mCons (mLst mNil) (mCons (mMake "Wish" m_Wish_init_Z mNil mNil) mNil)) mNil) (mC (.int 0)))) (mTest (mBin dNeP (mCall m_least_last (mCons (mB dList (mCons (mVar 5) mNil)) (mCons (mVar 8) mNil)) mNil) (mVar 10)))) [script, at_, some (.cell l0), some (wD b), some (wD a), some (.lst (strD M)), mild, o7, some (wishD b a), some (.lst (strD M)), some (oW (leastW M b a))] S = .ok false S := by
    have ed : dList [.lst (strD M)] S = .ok (.lst (strD M)) S := rfl
    have el : (if ([] : List Dat).all nc = true then Out.ok (Dat.lst []) S else Out.stk) = .ok (.lst []) S := rfl
    simp only [dOr_s, mTest_s, mBin_s, mCall_s, mCons_s, mLst_s, mNil_s, bind_ok, el, makeZ_eq, List.append_nil, lz, mC_s, dNeP_int, decide_true, Bool.not_true, Bool.false_eq_true, if_false, mB_s, mVar_s, List.getElem?_cons_zero, List.getElem?_cons_succ, ed, least_eq hM, ne_oW]
  rw [t3]
  simp only [ofT_ok, Bool.false_eq_true, if_false, sSkip_s]
end JK
namespace JK
open PySem PySem.Spec L2 JL
theorem unCell_wD {l : Nat} {d : Dat} {w : Wo} : unCell l d (wD w) = wD w := by cases w <;> rfl
theorem unCell_ne {l m : Nat} {d : Dat} (h : m ≠ l) : unCell l d (.cell m) = .cell m := if_neg h
theorem law_body {ns : List Int} {i : Int} {S : Sto} {o2 o3 o4 o5 o6 o7 o8 o9 o10 : Option Dat} (h0 : 0 ≤ i) (h1 : i < 16) :
    ∃ S' p2 p3 p4 p5 p6 p7 p8 p9 p10, b_law_2 [some (.rol (ns.map .int)), some (.int i), o2, o3, o4, o5, o6, o7, o8, o9, o10] S = .nx [some (.rol (ns.map .int)), some (.int i), p2, p3, p4, p5, p6, p7, p8, p9, p10] S' := by
  obtain ⟨A, B, t, n, ok, e1⟩ := deck_eq (ns := ns) (S := S) h0 h1
  generalize hT0 : S ++ [some (deckD A B t n)] = T0 at e1
  have hd0 : T0[S.length]? = some (some (deckD A B t n)) := by rw [← hT0]; simp
  have hl0 : S.length < T0.length := by rw [← hT0]; simp
  generalize hl : S.length = l0 at *
  obtain ⟨A1, B1, t1, n1, b, a, ok1, hb, ha, e2⟩ := wish_eq hd0 ok
  generalize hT1 : T0.set l0 (some (deckD A1 B1 t1 n1)) = T1 at e2
  have hd1 : T1[l0]? = some (some (deckD A1 B1 t1 n1)) := by rw [← hT1]; exact List.getElem?_set_self hl0
  have hl1 : l0 < T1.length := by rw [← hT1]; simpa using hl0
  obtain ⟨A2, B2, t2, n2, r, ok2, _, _, e3⟩ := draw_eq (many := 2) (app_get (y := some (.lst [])) hd1) ok1 (by decide) (by decide) (by decide)
  rw [app_set hl1] at e3
  generalize hT2 : T1.set l0 (some (deckD A2 B2 t2 n2)) = T2 at e3
  have hd2 : T2[l0]? = some (some (deckD A2 B2 t2 n2)) := by rw [← hT2]; exact List.getElem?_set_self hl1
  have len2 : T2.length = T1.length := by rw [← hT2]; simp
  obtain ⟨T3, A3, B3, t3, n3, M, p7, len3, hd3, ok3, hM, hML, e4⟩ := law_loop1 (l0 := l0) (b := b) (a := a) (mild := decide (r = 1)) (e0 := some (.rol (ns.map .int))) (e1 := some (.int i)) (o8 := o8) (o9 := o9) (o10 := o10) hb ha (xs := nms) (T := T2) (M := []) (o7 := o7) hd2 ok2 (by decide) (fun y hy => (nomatch hy)) (by decide) fun x h => h
  have g1 : (sSet 2 (mCall m__law_deck (mCons (mVar 0) (mCons (mVar 1) mNil)) mNil)) [some (.rol (ns.map .int)), some (.int i), o2, o3, o4, o5, o6, o7, o8, o9, o10] S = .nx [some (.rol (ns.map .int)), some (.int i), some (.cell l0), o3, o4, o5, o6, o7, o8, o9, o10] T0 := by
    simp only [sSet_s, mCall_s, mCons_s, mVar_s, List.getElem?_cons_zero, List.getElem?_cons_succ, bind_ok, mNil_s, List.append_nil, e1, ofE_ok, List.set_cons_succ, List.set_cons_zero]
  have g2 : (sAsg (gT (gC (gN 3) (gC (gN 4) gZ))) (mCall m__law_wish (mCons (mVar 2) mNil) mNil)) [some (.rol (ns.map .int)), some (.int i), some (.cell l0), o3, o4, o5, o6, o7, o8, o9, o10] T0 = .nx [some (.rol (ns.map .int)), some (.int i), some (.cell l0), some (wD b), some (wD a), o5, o6, o7, o8, o9, o10] T1 := by
    simp only [sAsg_s, mCall_s, mCons_s, mVar_s, List.getElem?_cons_zero, List.getElem?_cons_succ, bind_ok, mNil_s, List.append_nil, e2, ofE_ok, gT_s, gC_s, gN_s, gZ_s, Option.bind_some, List.set_cons_succ, List.set_cons_zero]
  have g3 : (sPar 5 6 (mCons (mCel mNil) (mCons (mBin dEqP (mCall m__law_draw (mCons (mVar 2) (mCons (mC (.int 2)) mNil)) mNil) (mC (.int 1))) mNil))) [some (.rol (ns.map .int)), some (.int i), some (.cell l0), some (wD b), some (wD a), o5, o6, o7, o8, o9, o10] T1 = .nx [some (.rol (ns.map .int)), some (.int i), some (.cell l0), some (wD b), some (wD a), some (.cell T2.length), some (.bl (decide (r = 1))), o7, o8, o9, o10] (T2 ++ [some (.lst [])]) := by
    rw [len2]
    have ec : mCel mNil [some (.rol (ns.map .int)), some (.int i), some (.cell l0), some (wD b), some (wD a), o5, o6, o7, o8, o9, o10] T1 = .ok (.cell T1.length) (T1 ++ [some (.lst [])]) := rfl
    simp only [sPar_s, mCons_s, ec, bind_ok, mBin_s, mCall_s, mVar_s, List.getElem?_cons_zero, List.getElem?_cons_succ, mC_s, mNil_s, List.append_nil, e3, dEqP_int, List.set_cons_succ, List.set_cons_zero]
  have g4 : (sFor (gN 7) (miE itP (mCall m__law_names mNil mNil)) b_law_1) [some (.rol (ns.map .int)), some (.int i), some (.cell l0), some (wD b), some (wD a), some (.cell T2.length), some (.bl (decide (r = 1))), o7, o8, o9, o10] (T2 ++ [some (.lst [])]) = .nx [some (.rol (ns.map .int)), some (.int i), some (.cell l0), some (wD b), some (wD a), some (.cell T2.length), some (.bl (decide (r = 1))), p7, o8, o9, o10] (T3 ++ [some (.lst (strD M))]) := by
    simp only [sFor_s, miE_s, mCall_s, mNil_s, bind_ok, List.append_nil, names_eq, itP_lst, ofA_ok]
    exact e4
  have hl3 : l0 < T3.length := (List.getElem?_eq_some_iff.mp hd3).1
  have hm : ∃ T4 M', T4.length = T2.length ∧ (∀ y ∈ M', y ∈ nms) ∧ (sIf (dAnd (mTru (mVar 5)) (mTest (mBin dEqP (mCall m__law_draw (mCons (mVar 2) (mCons (mC (.int 3)) mNil)) mNil) (mC (.int 0))))) (sDrop (mBL fApp (mVar 5) (mCons (mBin dIx (mVar 5) (mC (.int 0))) mNil))) sSkip) [some (.rol (ns.map .int)), some (.int i), some (.cell l0), some (wD b), some (wD a), some (.cell T2.length), some (.bl (decide (r = 1))), p7, o8, o9, o10] (T3 ++ [some (.lst (strD M))]) =
      .nx [some (.rol (ns.map .int)), some (.int i), some (.cell l0), some (wD b), some (wD a), some (.cell T2.length), some (.bl (decide (r = 1))), p7, o8, o9, o10] (T4 ++ [some (.lst (strD M'))]) := by
    have ht : tru (.cell T2.length) (T3 ++ [some (.lst (strD M))]) = some (!(strD M).isEmpty) := tru_cell (last_len len3)
    cases M with
    | nil =>
      refine ⟨T3, [], len3, fun y hy => (nomatch hy), ?_⟩
      have ht : tru (.cell T2.length) (T3 ++ [some (.lst (strD []))]) = some false := ht
      simp only [sIf_s, dAnd_s, mTru_s, mVar_s, List.getElem?_cons_zero, List.getElem?_cons_succ, bind_ok, ht, Bool.false_eq_true, if_false, ofT_ok, sSkip_s]
    | cons x r' =>
      have ht : tru (.cell T2.length) (T3 ++ [some (.lst (strD (x :: r')))]) = some true := ht
      obtain ⟨A4, B4, t4, n4, q, ok4, _, _, e5⟩ := draw_eq (many := 3) (app_get (y := some (.lst (strD (x :: r')))) hd3) ok3 (by decide) (by decide) (by decide)
      rw [app_set hl3] at e5
      generalize hT4 : T3.set l0 (some (deckD A4 B4 t4 n4)) = T4 at e5
      have len4 : T4.length = T2.length := by rw [← hT4, ← len3]; simp
      by_cases hq : q = 0
      · have q1 : lstOf (.cell T2.length) (T4 ++ [some (.lst (strD (x :: r')))]) = some (strD (x :: r')) := lstOf_cell (last_len len4)
        have q2 : dIx (.cell T2.length) (.int 0) (T4 ++ [some (.lst (strD (x :: r')))]) = .ok (.str x) (T4 ++ [some (.lst (strD (x :: r')))]) := by
          rw [dIx_s, seqOf_cell (last_len len4)]
          have : L2.atI (strD (x :: r')) 0 = some (.str x) := by simp [L2.atI, ixN, strD]
          simp only [this]
        have q3 : fApp T2.length [.str x] (T4 ++ [some (.lst (strD (x :: r')))]) = .ok .non (T4 ++ [some (.lst (strD (x :: r' ++ [x])))]) := by
          rw [fApp_s, q1]
          simp only
          rw [if_pos ⟨rfl, by rw [strD_len]; omega⟩, ← len4, set_last]
          unfold strD
          rw [List.map_append]
          rfl
        refine ⟨T4, x :: r' ++ [x], len4, fun y hy => ?_, ?_⟩
        · rcases List.mem_append.mp hy with hy | hy
          · exact hM y hy
          · rw [List.mem_singleton.mp hy]; exact hM x List.mem_cons_self
        · simp only [sIf_s, dAnd_s, mTru_s, mVar_s, List.getElem?_cons_zero, List.getElem?_cons_succ, bind_ok, ht, if_true, mTest_s, mBin_s, mCall_s, mCons_s, mC_s, mNil_s, List.append_nil, e5, dEqP_int, hq, decide_true, ofT_ok, sDrop_s, mBL_s, q1, Option.isSome_some, q2, q3, ofE_ok]
      · refine ⟨T4, x :: r', len4, hM, ?_⟩
        simp only [sIf_s, dAnd_s, mTru_s, mVar_s, List.getElem?_cons_zero, List.getElem?_cons_succ, bind_ok, ht, if_true, mTest_s, mBin_s, mCall_s, mCons_s, mC_s, mNil_s, List.append_nil, e5, dEqP_int, decide_eq_false hq, ofT_ok, Bool.false_eq_true, if_false, sSkip_s]
  obtain ⟨T4, M', len4, hM', g5⟩ := hm
  have hne : l0 ≠ T4.length := by omega
  have htail := tail_eq (script := some (.rol (ns.map .int))) (at_ := some (.int i)) (l0 := l0) (b := b) (a := a) (M := M') (mild := some (.bl (decide (r = 1)))) (o7 := p7.map (unCell T4.length (.lst (strD M')))) (o8 := o8.map (unCell T4.length (.lst (strD M')))) (o9 := o9.map (unCell T4.length (.lst (strD M')))) (o10 := o10.map (unCell T4.length (.lst (strD M')))) (S := T4 ++ [none]) hb ha hM'
  refine ⟨T4 ++ [none], some (.cell l0), some (wD b), some (wD a), some (.lst (strD M')), some (.bl (decide (r = 1))), p7.map (unCell T4.length (.lst (strD M'))), some (wishD b a), some (.lst (strD M')), some (oW (leastW M' b a)), ?_⟩
  unfold b_law_2
  rw [sSeq_s, g1]
  simp only
  rw [sSeq_s, g2]
  simp only
  rw [sSeq_s, g3]
  simp only
  rw [sSeq_s, g4]
  simp only
  rw [sSeq_s, g5]
  simp only
  rw [← len4, frz_last rfl]
  simp only [List.map_cons, List.map_nil, Option.map_some, unCell_same, unCell_wD, unCell_ne hne]
  exact htail
theorem law_loop2 {ns : List Int} : ∀ {ks : List Int} {S : Sto} {o1 o2 o3 o4 o5 o6 o7 o8 o9 o10 : Option Dat}, (∀ k ∈ ks, 0 ≤ k ∧ k < 16) →
    ∃ S' env', forL (gN 1) b_law_2 (ks.map .int) [some (.rol (ns.map .int)), o1, o2, o3, o4, o5, o6, o7, o8, o9, o10] S = .nx env' S'
  | [], S, o1, o2, o3, o4, o5, o6, o7, o8, o9, o10, _ => ⟨S, _, rfl⟩
  | k :: ks, S, o1, o2, o3, o4, o5, o6, o7, o8, o9, o10, h => by
    obtain ⟨h0, h1⟩ := h k List.mem_cons_self
    obtain ⟨S1, p2, p3, p4, p5, p6, p7, p8, p9, p10, e⟩ := law_body (ns := ns) (S := S) (o2 := o2) (o3 := o3) (o4 := o4) (o5 := o5) (o6 := o6) (o7 := o7) (o8 := o8) (o9 := o9) (o10 := o10) h0 h1
    obtain ⟨S2, env2, ih⟩ := law_loop2 (ns := ns) (ks := ks) (S := S1) (o1 := some (.int k)) (o2 := p2) (o3 := p3) (o4 := p4) (o5 := p5) (o6 := p6) (o7 := p7) (o8 := p8) (o9 := p9) (o10 := p10) fun y hy => h y (List.mem_cons_of_mem _ hy)
    exact ⟨S2, env2, (forL_nx rfl e).trans ih⟩
theorem law_true (ns : List Int) (hn : ns.length ≤ 63) (_hb : ∀ z ∈ ns, Builtin.Int.intBits z ≤ 1048576) : ∃ S, m_law [.rol (ns.map .int)] [] = .ok (.bl true) S := by
  let c : Int := if (ns.length : Int) < 8 then (ns.length : Int) else 8
  let d : Int := if c > 1 then c else 1
  have hd0 : 0 ≤ d := by show 0 ≤ (if c > 1 then c else 1); split <;> omega
  have hd1 : d ≤ 8 := by
    show (if c > 1 then c else 1) ≤ 8
    have hc : c ≤ 8 := by show (if (ns.length : Int) < 8 then (ns.length : Int) else 8) ≤ 8; split <;> omega
    split <;> omega
  have hr : inR d = true := by
    unfold inR
    rw [Bool.and_eq_true]
    exact ⟨decide_eq_true (by omega), decide_eq_true (by omega)⟩
  have hk : rngL 0 d.toNat = ((List.range d.toNat).map fun k : Nat => (k : Int)).map Dat.int := by
    unfold rngL
    rw [List.map_map]
    congr 1
    funext k
    show Dat.int (0 + (k : Int)) = .int k
    rw [Int.zero_add]
  obtain ⟨S', env', hloop⟩ := law_loop2 (ns := ns) (ks := (List.range d.toNat).map fun k : Nat => (k : Int)) (S := []) (o1 := none) (o2 := none) (o3 := none) (o4 := none) (o5 := none) (o6 := none) (o7 := none) (o8 := none) (o9 := none) (o10 := none) fun k hk => by
    obtain ⟨m, hm, rfl⟩ := List.mem_map.mp hk
    have := List.mem_range.mp hm
    omega
  refine ⟨[], mDef_rt (S1 := S') rfl ?_ rfl rfl⟩
  show s_law [some (.rol (ns.map .int)), none, none, none, none, none, none, none, none, none, none] [] = _
  have hlen : (ns.map Dat.int).length = ns.length := List.length_map ..
  have hi : (miA rng1 (mCons (mB dMax2 (mCons (mC (.int 1)) (mCons (mB dMin2 (mCons (mC (.int 8)) (mCons (mB dLen (mCons (mVar 0) mNil)) mNil))) mNil))) mNil)) [some (.rol (ns.map .int)), none, none, none, none, none, none, none, none, none, none] [] = .ok (rngL 0 d.toNat) [] := by
    simp only [miA_s, mCons_s, mB_s, mC_s, bind_ok, mVar_s, List.getElem?_cons_zero, mNil_s, dLen_s, seqOf_rol, hlen]
    show (match rng1 [Dat.int d] with
      | some xs => Out.ok xs []
      | none => .stk) = _
    have : rng1 [Dat.int d] = some (rngL 0 d.toNat) := if_pos hr
    rw [this]
  unfold s_law
  rw [sSeq_s, sFor_s, hi, ofA_ok, hk, hloop]
  rfl
end JK
namespace JK
open PySem PySem.Spec L2 JL
theorem run (w : World) : HandSHeadRun.RunEq R (PySem.W.view R.prog [40]) hk ob 8000 names w := by
  intro os
  kernel_rfl
end JK
namespace JK
open PySem PySem.Spec L2 JL
end JK
open PySem PySem.W PySem.Calls PyProof.Rows
theorem PySem.Challenge.cw_letineditions_k70_least_number_of_editio_holds : PySem.Challenge.rw_letineditions_k70_least_number_of_editio.Holds := by
  w_on; o_law
  refine HandSHeadRun.head_any (r := OpenLaw.row PySem.Challenge.rw_letineditions_k70_least_number_of_editio) (q := view (OpenLaw.row PySem.Challenge.rw_letineditions_k70_least_number_of_editio).prog [40]) (H := JK.hk) (ob := JK.ob) (M := 8000) (loose := JK.names) (d := HandSHeadRun.topDef (OpenLaw.row PySem.Challenge.rw_letineditions_k70_least_number_of_editio).prog 40) (kwd := []) JK.ob_eq
    (by kernel_rfl) (fun s => by kernel_rfl) JK.run (by kernel_rfl) (by kernel_rfl) (by kernel_rfl) (by rfl) (by first | assumption | decide +kernel) (by decide +kernel) ⟨rfl, rfl, rfl, rfl, rfl, by decide +kernel⟩ ?hw ?hc
  case hw => w_witness2
  case hc =>
    refine JL.walk_ofM (l := PySem.Challenge.rw_letineditions_k70_least_number_of_editio) (n := 63) (k := 8) (x := "_law_script") (m := JK.m_law) rfl (by decide) (by kernel_rfl) ⟨rfl, by decide, by decide⟩ ?F JK.law_true
    intro w mg fa h Y G hmg0
    obtain ⟨K, KX, c⟩ := Y
    have hmg : mg ("law" : PySem.Str) = some (.ref fa) := by
      have e : (HandSHeadRun.topDef (OpenLaw.row PySem.Challenge.rw_letineditions_k70_least_number_of_editio).prog 40).name = ("law" : PySem.Str) := by kernel_rfl
      rw [← e]
      exact hmg0
    obtain ⟨fd, hb, hF⟩ := JK.facts (P := (PySem.Challenge.rw_letineditions_k70_least_number_of_editio).prog) (w := w) KX G hmg c
    exact ⟨K, fd, KX, hb, hF⟩
