import PyProof.Rows.All
import Wide.All
import OpenK.AllK
import Wide.FinOn
import HandS.ForMost
import HandS.ForExc
import HandS.Slots
import HandS.TupAny
import HandS.Deep
import HandS.Style
import HandS.SortInts
import HandS.Walk
import HandS.Conv
import HandS.IsInst
import HandS.WideBits
import HandS.CallSlots
import HandS.ExcCtx
import HandS.Iter
import KE.GoesMore
import HandS.TupSets
import HandS.NamedTupSort
import HandS.RevTup
import HandS.ExcSuper
import HandS.ExcInit
import HandS.ExcInitHot
import HandS.ExcField
import HandS.SuiteRaise
import HandS.RaiseFrom
import HandS.TryMany
import HandS.Defaults
import HandS.Ends
import HandS.HeadEnd
import HandS.Head0
import HandS.Head1
import HandS.Head2
import HandS.HeadHook1
import HandS.HeadHook2
import KE.KStateDown
import PySem.Challenge.RW_newsbooks_k95_rests_and_kernels
section
set_option Elab.async false
set_option linter.all false
set_option maxRecDepth 100000
set_option maxHeartbeats 1000000
namespace Nb
open PySem PySem.Spec PyProof.Rows L2

/-- data: frozen all through, but for ref (a live cell) -/
inductive D where
  | non | bl (b : Bool) | int (i : Int) | str (x : Str) | tup (l : List D) | lst (l : List D) | frl (l : List D) | rng (lo hi : Int) | obj (c : Nat) (l : List (Option D)) | ty (n : String) | cls (c : Nat) | exn (a : Nat) | ref (n : Nat)
def D.isRef : D → Bool
  | .ref _ => true
  | _ => false
abbrev LINE : Nat := 16777216
/-- a live cell -/
inductive Cell where
  | lst (l : List D) | ins (c : Nat) (l : List (Option D))
abbrev Hpp := List Cell
abbrev Env := List (Option D)
abbrev Flds := List (Str × D)
/-- an expression's end -/
inductive R (a : Type) where
  | ok (x : a) (h : Hpp) | exc (c : Nat) (l : Flds) (h : Hpp) | no
/-- a statement's end -/
inductive SF where
  | nx (e : Env) (h : Hpp) | rt (d : D) (h : Hpp) | bk (e : Env) (h : Hpp) | ct (e : Env) (h : Hpp) | exc (c : Nat) (l : Flds) (e : Env) (h : Hpp) | no
def R.bind {a b : Type} (r : R a) (k : a → Hpp → R b) : R b := match r with
  | .ok x h => k x h
  | .exc c l h => .exc c l h
  | .no => .no
abbrev M (a : Type) := Env → Hpp → R a
abbrev EM := M D
abbrev SM := Env → Hpp → SF
abbrev FM := List D → Hpp → R D

section
variable (K : PySem.W.Frag) (cl : Nat → Addr → Prop) (H : Hp) (mu : List Addr)
/-- a frozen list, tuple -/
def FzL (a : Addr) (vs : List V) : Prop := (a ∉ mu ∧ Rd H a (.lst vs)) ∨
    ∃ (o : Obj) (its : Array Value) (n : Nat), K.lookup a = some o ∧ o.cls = .type "list" ∧ o.dict = none ∧ o.data = .seq its n ∧ its.size ≤ sizeLine ∧ Vals vs its.toList
def FzT (a : Addr) (vs : List V) : Prop := (a ∉ mu ∧ Rd H a (.tup vs)) ∨
    ∃ (o : Obj) (its : Array Value) (n : Nat), K.lookup a = some o ∧ o.cls = .type "tuple" ∧ o.data = .seq its n ∧ its.size ≤ sizeLine ∧ Vals vs its.toList
/-- an instance with slots that is no longer changed -/
def ObjAt (a C dx : Addr) (vs : List (Option V)) : Prop := a ∉ mu ∧ ((H a = some (.ins C dx []) ∧ vs = []) ∨ (dx ∉ mu ∧ H a = some (SlX.SlO a C dx vs) ∧ H dx = some (.xd [])))
mutual
inductive RelD : D → V → Prop
  | non : RelD .non .non
  | bl (b : Bool) : RelD (.bl b) (.bl b)
  | int (i : Int) : RelD (.int i) (.int i)
  | str (x : Str) : RelD (.str x) (.str x)
  | tup {l : List D} {a : Addr} {vs : List V} : FzT K H mu a vs → l.length ≤ LINE → RelL l vs → RelD (.tup l) (.ref a)
  | lst {l : List D} {a : Addr} {vs : List V} : a ∉ mu → H a = some (.lst vs) → l.length ≤ LINE → RelL l vs → RelD (.lst l) (.ref a)
  | frl {l : List D} {a : Addr} {vs : List V} : FzL K H mu a vs → l.length ≤ LINE → RelL l vs → RelD (.frl l) (.ref a)
  | rng {a : Addr} {lo hi : Int} : a ∉ mu → H a = some (.rng lo hi) → RelD (.rng lo hi) (.ref a)
  | obj {c : Nat} {C a dx : Addr} {l : List (Option D)} {vs : List (Option V)} : cl c C → ObjAt H mu a C dx vs → RelO l vs → RelD (.obj c l) (.ref a)
  | ty (n : String) : RelD (.ty n) (.ty n)
  | cls {c : Nat} {C : Addr} : cl c C → RelD (.cls c) (.ref C)
  | exn (a : Nat) : RelD (.exn a) (.ref a)
  | ref {n : Nat} {a : Addr} : mu[n]? = some a → RelD (.ref n) (.ref a)
inductive RelL : List D → List V → Prop
  | nil : RelL [] []
  | cons {d : D} {v : V} {l : List D} {vs : List V} : RelD d v → d.isRef = false → RelL l vs → RelL (d :: l) (v :: vs)
inductive RelO : List (Option D) → List (Option V) → Prop
  | nil : RelO [] []
  | none {v : Option V} {l : List (Option D)} {vs : List (Option V)} : RelO l vs → RelO (none :: l) (v :: vs)
  | some {d : D} {v : V} {l : List (Option D)} {vs : List (Option V)} : RelD d v → d.isRef = false → RelO l vs → RelO (some d :: l) (some v :: vs)
end
def RelC : Cell → Addr → Prop
  | .lst l, a => ∃ vs, H a = some (.lst vs) ∧ l.length ≤ LINE ∧ RelL K cl H mu l vs
  | .ins c l, a => ∃ (C dx : Addr) (vs : List (Option V)), cl c C ∧ dx ≠ a ∧ dx ∉ mu ∧ SlX.Slt H a C dx vs ∧ (H dx = some (.own a) ∨ H dx = some (.xd [])) ∧ RelO K cl H mu l vs
structure RepH (h : Hpp) : Prop where
  len : mu.length = h.length
  nd : mu.Nodup
  cells : ∀ (n : Nat) (a : Addr) (c : Cell), mu[n]? = some a → h[n]? = some c → RelC K cl H mu c a
def RelE (env : Env) (s : L2.St) : Prop := env.length ≤ s.length ∧ ∀ (i : Nat) (d : D), env[i]? = some (some d) → ∃ v, s[i]? = some (some v) ∧ RelD K cl H mu d v
def RelX (c : Nat) (l : Flds) (cls : Value) (dx : Option Addr) : Prop :=
  ∃ (C dd : Addr) (fs : List (Str × V)), cls = .ref C ∧ cl c C ∧ dx = some dd ∧ dd ∉ mu ∧ H dd = some (.xd fs) ∧ ∀ f d, l.lookup f = some d → d.isRef = false ∧ ∃ v, fs.lookup f = some v ∧ RelD K cl H mu d v
end
/-- what a later state keeps -/
structure Ext (H : Hp) (mu : List Addr) (H' : Hp) (mu' : List Addr) : Prop where
  pre : ∃ nu, mu' = mu ++ nu
  new : ∀ a ∈ mu', a ∉ mu → ∀ o, H a = some o → ∃ x, o = .own x
  frz : ∀ a o, a ∉ mu → H a = some o → (∀ x, o ≠ .own x) → H' a = some o
section
variable {K : PySem.W.Frag} {cl : Nat → Addr → Prop} {H H' H2 : Hp} {mu mu' mu2 : List Addr}
theorem Ext.refl : Ext H mu H mu := ⟨⟨[], by simp⟩, fun a h n => absurd h n, fun a o _ h _ => h⟩
theorem Ext.stays (e : Ext H mu H' mu') {a : Addr} {o : HO} (h : a ∉ mu) (q : H a = some o) (z : ∀ x, o ≠ .own x) : a ∉ mu' := fun m => by
  obtain ⟨x, r⟩ := e.new a m h o q
  exact z x r
theorem Ext.mem (e : Ext H mu H' mu') {a : Addr} (h : a ∈ mu) : a ∈ mu' := by
  obtain ⟨nu, e1⟩ := e.pre
  rw [e1]; exact List.mem_append_left _ h
theorem Ext.get (e : Ext H mu H' mu') {n : Nat} {a : Addr} (h : mu[n]? = some a) : mu'[n]? = some a := by
  obtain ⟨nu, e1⟩ := e.pre
  obtain ⟨hn, _⟩ := List.getElem?_eq_some_iff.mp h
  rw [e1, List.getElem?_append_left hn]; exact h
theorem Ext.trans (a : Ext H mu H' mu') (b : Ext H' mu' H2 mu2) : Ext H mu H2 mu2 := by
  refine ⟨?_, fun x hx hn o q => ?_, fun x o h q z => b.frz x o (a.stays h q z) (a.frz x o h q z) z⟩
  · obtain ⟨n1, e1⟩ := a.pre
    obtain ⟨n2, e2⟩ := b.pre
    exact ⟨n1 ++ n2, by rw [e2, e1, List.append_assoc]⟩
  · by_cases hm : x ∈ mu'
    · exact a.new x hm hn o q
    · by_cases ho : ∃ y, o = .own y
      · exact ho
      · exact b.new x hx hm o (a.frz x o hn q fun y e => ho ⟨y, e⟩)
theorem Rd.ext (e : Ext H mu H' mu') {a : Addr} {u : HO} (h : a ∉ mu) (r : Rd H a u) (z : ∀ x, u ≠ .own x) : a ∉ mu' ∧ Rd H' a u := by
  rcases r with r | ⟨o, r⟩
  · exact ⟨e.stays h r z, .inl (e.frz a _ h r z)⟩
  · exact ⟨e.stays h r (fun x => nofun), .inr ⟨o, e.frz a _ h r fun x => nofun⟩⟩
theorem FzL.ext (e : Ext H mu H' mu') {a : Addr} {vs : List V} (h : FzL K H mu a vs) : FzL K H' mu' a vs := by
  rcases h with ⟨h, r⟩ | h
  · exact .inl (Rd.ext e h r fun x => nofun)
  · exact .inr h
theorem FzT.ext (e : Ext H mu H' mu') {a : Addr} {vs : List V} (h : FzT K H mu a vs) : FzT K H' mu' a vs := by
  rcases h with ⟨h, r⟩ | h
  · exact .inl (Rd.ext e h r fun x => nofun)
  · exact .inr h
theorem FzL.sq {a : Addr} {vs : List V} (h : FzL K H mu a vs) : SqL K H a vs := by
  rcases h with ⟨_, r⟩ | h
  · exact .inl r
  · exact .inr h
theorem FzT.sq {a : Addr} {vs : List V} (h : FzT K H mu a vs) : SqT K H a vs := by
  rcases h with ⟨_, r⟩ | h
  · exact .inl r
  · exact .inr h
theorem slO_own {a C dx : Addr} {vs : List (Option V)} (x : Addr) : SlX.SlO a C dx vs ≠ .own x := fun z => by
  unfold SlX.SlO at z; cases z
theorem ObjAt.ext (e : Ext H mu H' mu') {a C dx : Addr} {vs : List (Option V)} (h : ObjAt H mu a C dx vs) : ObjAt H' mu' a C dx vs := by
  obtain ⟨h0, ⟨h1, h2⟩ | ⟨h1, h2, h3⟩⟩ := h
  · exact ⟨e.stays h0 h1 fun x => nofun, .inl ⟨e.frz a _ h0 h1 fun x => nofun, h2⟩⟩
  · exact ⟨e.stays h0 h2 slO_own, .inr ⟨e.stays h1 h3 fun x => nofun, e.frz a _ h0 h2 slO_own, e.frz dx _ h1 h3 fun x => nofun⟩⟩
theorem ObjAt.slt {a C dx : Addr} {vs : List (Option V)} (h : ObjAt H mu a C dx vs) : SlX.Slt H a C dx vs := by
  obtain ⟨_, h | ⟨_, h⟩⟩ := h
  · exact .inl h
  · exact .inr h
mutual
theorem RelD.ext (e : Ext H mu H' mu') : ∀ {d : D} {v : V}, RelD K cl H mu d v → RelD K cl H' mu' d v
  | _, _, .non => .non
  | _, _, .bl b => .bl b
  | _, _, .int b => .int b
  | _, _, .str b => .str b
  | _, _, .tup h z r => .tup (h.ext e) z (RelL.ext e r)
  | _, _, .lst h q z r => .lst (e.stays h q fun x => nofun) (e.frz _ _ h q fun x => nofun) z (RelL.ext e r)
  | _, _, .frl h z r => .frl (h.ext e) z (RelL.ext e r)
  | _, _, .rng h r => .rng (e.stays h r fun x => nofun) (e.frz _ _ h r fun x => nofun)
  | _, _, .obj h r q => .obj h (r.ext e) (RelO.ext e q)
  | _, _, .ty n => .ty n
  | _, _, .cls h => .cls h
  | _, _, .exn a => .exn a
  | _, _, .ref h => .ref (e.get h)
theorem RelL.ext (e : Ext H mu H' mu') : ∀ {d : List D} {v : List V}, RelL K cl H mu d v → RelL K cl H' mu' d v
  | _, _, .nil => .nil
  | _, _, .cons h n r => .cons (RelD.ext e h) n (RelL.ext e r)
theorem RelO.ext (e : Ext H mu H' mu') : ∀ {d : List (Option D)} {v : List (Option V)}, RelO K cl H mu d v → RelO K cl H' mu' d v
  | _, _, .nil => .nil
  | _, _, .none r => .none (RelO.ext e r)
  | _, _, .some h n r => .some (RelD.ext e h) n (RelO.ext e r)
end
theorem RelE.ext (e : Ext H mu H' mu') {env : Env} {s : L2.St} (h : RelE K cl H mu env s) : RelE K cl H' mu' env s := ⟨h.1, fun i d q => by
  obtain ⟨v, a, b⟩ := h.2 i d q
  exact ⟨v, a, b.ext e⟩⟩
theorem RelX.ext (e : Ext H mu H' mu') {c : Nat} {l : Flds} {cls : Value} {dx : Option Addr} (h : RelX K cl H mu c l cls dx) : RelX K cl H' mu' c l cls dx := by
  obtain ⟨C, dd, fs, e1, e2, e3, e4, e5, e6⟩ := h
  refine ⟨C, dd, fs, e1, e2, e3, e.stays e4 e5 (fun x => nofun), e.frz _ _ e4 e5 (fun x => nofun), fun f d q => ?_⟩
  obtain ⟨n, v, a, b⟩ := e6 f d q
  exact ⟨n, v, a, b.ext e⟩
end


section
variable {K : PySem.W.Frag} {cl : Nat → Addr → Prop} {H H1 : Hp} {mu : List Addr} {h : Hpp}
theorem RelC.there {c : Cell} {a : Addr} (r : RelC K cl H mu c a) : ∃ o, H a = some o := by
  cases c with
  | lst l => obtain ⟨vs, e, _⟩ := r; exact ⟨_, e⟩
  | ins c l =>
    obtain ⟨C, dx, vs, _, _, _, s, _⟩ := r
    rcases s with ⟨e, _⟩ | ⟨e, _⟩
    · exact ⟨_, e⟩
    · exact ⟨_, e⟩
theorem RepH.there (r : RepH K cl H mu h) {a : Addr} (m : a ∈ mu) : ∃ o, H a = some o := by
  obtain ⟨n, e⟩ := List.mem_iff_getElem?.mp m
  obtain ⟨hn, _⟩ := List.getElem?_eq_some_iff.mp e
  exact (r.cells n a _ e (List.getElem?_eq_getElem (by rw [← r.len]; exact hn))).there
theorem RepH.off (r : RepH K cl H mu h) {a : Addr} (e : H a = none) : a ∉ mu := fun m => by
  obtain ⟨o, q⟩ := r.there m
  rw [e] at q; cases q
theorem Ext.same (s : Same H H1) : Ext H mu H1 mu := ⟨⟨[], by simp⟩, fun a h n => absurd h n, fun a o _ q _ => s a o q⟩
theorem same_new {p : Addr} {o : HO} (hp : H p = none) : Same H (upd H p o) := fun a u e => by rw [upd_ne (ne_of_none e hp)]; exact e
theorem Slt.same (s : Same H H1) {a C dx : Addr} {vs : List (Option V)} (r : SlX.Slt H a C dx vs) : SlX.Slt H1 a C dx vs := by
  rcases r with ⟨e, q⟩ | ⟨e, q⟩
  · exact .inl ⟨s _ _ e, q⟩
  · exact .inr ⟨s _ _ e, s _ _ q⟩
theorem RelC.same (s : Same H H1) {c : Cell} {a : Addr} (r : RelC K cl H mu c a) : RelC K cl H1 mu c a := by
  cases c with
  | lst l => obtain ⟨vs, e, z, q⟩ := r; exact ⟨vs, s _ _ e, z, q.ext (Ext.same s)⟩
  | ins c l =>
    obtain ⟨C, dx, vs, h1, h2, h3, h4, h5, h6⟩ := r
    exact ⟨C, dx, vs, h1, h2, h3, Slt.same s h4, h5.elim (fun z => .inl (s _ _ z)) (fun z => .inr (s _ _ z)), h6.ext (Ext.same s)⟩
theorem RepH.same (s : Same H H1) (r : RepH K cl H mu h) : RepH K cl H1 mu h := ⟨r.len, r.nd, fun n a c e q => (r.cells n a c e q).same s⟩
theorem Ext.nw {p : Addr} {o : HO} (hp : H p = none) : Ext H mu (upd H p o) mu := Ext.same (same_new hp)
theorem RepH.nw {p : Addr} {o : HO} (hp : H p = none) (r : RepH K cl H mu h) : RepH K cl (upd H p o) mu h := r.same (same_new hp)
/-- a new frozen list, tuple -/
theorem fz_lst {p : Addr} {l : List D} {vs : List V} (r : RepH K cl H mu h) (hp : H p = none) (z : l.length ≤ LINE) (q : RelL K cl H mu l vs) : RelD K cl (upd H p (.lst vs)) mu (.lst l) (.ref p) := .lst (r.off hp) upd_same z (q.ext (Ext.nw hp))
theorem fz_tup {p : Addr} {l : List D} {vs : List V} (r : RepH K cl H mu h) (hp : H p = none) (z : l.length ≤ LINE) (q : RelL K cl H mu l vs) : RelD K cl (upd H p (.tup vs)) mu (.tup l) (.ref p) := .tup (.inl ⟨r.off hp, .inl upd_same⟩) z (q.ext (Ext.nw hp))
theorem fz_rng {p : Addr} {lo hi : Int} (r : RepH K cl H mu h) (hp : H p = none) : RelD K cl (upd H p (.rng lo hi)) mu (.rng lo hi) (.ref p) := .rng (r.off hp) upd_same
/-- a new cell -/
theorem Ext.cell {p : Addr} {o : HO} (hp : H p = none) : Ext H mu (upd H p o) (mu ++ [p]) := by
  refine ⟨⟨[p], rfl⟩, fun a ha hn o q => ?_, fun a u hn q z => by rw [upd_ne (ne_of_none q hp)]; exact q⟩
  rcases List.mem_append.mp ha with m | m
  · exact absurd m hn
  · have e : a = p := by simpa using m
    rw [e, hp] at q; cases q
theorem RelC.cellx {p : Addr} {o : HO} {c : Cell} {a : Addr} (hp : H p = none) (r : RelC K cl H mu c a) : RelC K cl (upd H p o) (mu ++ [p]) c a := by
  have e := Ext.cell (mu := mu) (o := o) hp
  cases c with
  | lst l => obtain ⟨vs, z, y, q⟩ := r; exact ⟨vs, same_new hp _ _ z, y, q.ext e⟩
  | ins c l =>
    obtain ⟨C, dx, vs, h1, h2, h3, h4, h5, h6⟩ := r
    have hdx : dx ≠ p := by
      rcases h5 with z | z
      · exact ne_of_none z hp
      · exact ne_of_none z hp
    exact ⟨C, dx, vs, h1, h2, by simp [h3, hdx], Slt.same (same_new hp) h4, h5.elim (fun z => .inl (same_new hp _ _ z)) (fun z => .inr (same_new hp _ _ z)), h6.ext e⟩
theorem RepH.cell {p : Addr} {o : HO} {c : Cell} (hp : H p = none) (r : RepH K cl H mu h) (q : RelC K cl (upd H p o) (mu ++ [p]) c p) : RepH K cl (upd H p o) (mu ++ [p]) (h ++ [c]) := by
  have hoff := r.off hp
  refine ⟨by simp [r.len], ?_, fun n a c' e e' => ?_⟩
  · rw [List.nodup_append]
    refine ⟨r.nd, by simp, fun a ha b hb e => ?_⟩
    have : b = p := by simpa using hb
    subst this; subst e; exact hoff ha
  · by_cases hn : n < mu.length
    · rw [List.getElem?_append_left hn] at e
      rw [List.getElem?_append_left (by rw [← r.len]; exact hn)] at e'
      exact (r.cells n a c' e e').cellx hp
    · rw [List.getElem?_append_right (by omega)] at e
      rw [List.getElem?_append_right (by rw [← r.len]; omega), ← r.len] at e'
      have z : n - mu.length = 0 := by
        have := (List.getElem?_eq_some_iff.mp e).1
        simp only [List.length_cons, List.length_nil] at this; omega
      rw [z] at e e'
      have e1 : p = a := by simpa using e
      have e2 : c = c' := by simpa using e'
      subst e1; subst e2; exact q
theorem Ext.put {a : Addr} {o : HO} (m : a ∈ mu) : Ext H mu (upd H a o) mu := ⟨⟨[], by simp⟩, fun a h n => absurd h n, fun b u hb q _ => by
  have hne : b ≠ a := fun z => hb (by rw [z]; exact m)
  rw [upd_ne hne]; exact q⟩
theorem RepH.put {a : Addr} {n : Nat} {o o0 : HO} {c : Cell} (r : RepH K cl H mu h) (hn : mu[n]? = some a) (h0 : H a = some o0) (z1 : ∀ x, o0 ≠ .own x) (z2 : o0 ≠ .xd []) (q : RelC K cl (upd H a o) mu c a) : RepH K cl (upd H a o) mu (h.set n c) := by
  refine ⟨by simp [r.len], r.nd, fun m b c' e e' => ?_⟩
  have ha : a ∈ mu := List.mem_of_getElem? hn
  by_cases hm : m = n
  · subst hm
    rw [hn] at e; cases e
    rw [List.getElem?_set_self (by rw [← r.len]; exact (List.getElem?_eq_some_iff.mp hn).1)] at e'
    cases e'; exact q
  · rw [List.getElem?_set_ne (fun z => hm z.symm)] at e'
    have hb : b ≠ a := fun z => by
      subst z
      exact hm ((List.getElem?_inj (List.getElem?_eq_some_iff.mp e).1 r.nd).mp (e.trans hn.symm))
    have rc := r.cells m b c' e e'
    have x := Ext.put (H := H) (mu := mu) (o := o) ha
    cases c' with
    | lst l => obtain ⟨vs, w, y, q⟩ := rc; exact ⟨vs, by rw [upd_ne hb]; exact w, y, q.ext x⟩
    | ins c l =>
      obtain ⟨C, dx, vs, h1, h2, h3, h4, h5, h6⟩ := rc
      have hd : dx ≠ a := fun z => h3 (z ▸ ha)
      refine ⟨C, dx, vs, h1, h2, h3, ?_, ?_, h6.ext x⟩
      · rcases h4 with ⟨w, w2⟩ | ⟨w, w2⟩
        · exact .inl ⟨by rw [upd_ne hb]; exact w, w2⟩
        · exact .inr ⟨by rw [upd_ne hb]; exact w, by rw [upd_ne hd]; exact w2⟩
      · rw [upd_ne hd]; exact h5
theorem RelL.len : ∀ {l : List D} {vs : List V}, RelL K cl H mu l vs → l.length = vs.length
  | _, _, .nil => rfl
  | _, _, .cons _ _ r => by simp [RelL.len r]
theorem RelL.get : ∀ {l : List D} {vs : List V} {i : Nat} {d : D}, RelL K cl H mu l vs → l[i]? = some d → ∃ v, vs[i]? = some v ∧ RelD K cl H mu d v ∧ d.isRef = false
  | _, _, _, _, .nil, e => by simp at e
  | _, _, 0, _, .cons h n _, e => by simp at e; subst e; exact ⟨_, rfl, h, n⟩
  | _, _, i + 1, d, .cons _ _ r, e => by
    obtain ⟨v, a, b⟩ := RelL.get (i := i) (d := d) r (by simpa using e)
    exact ⟨v, by simpa using a, b⟩
theorem RelL.append : ∀ {l m : List D} {vs ws : List V}, RelL K cl H mu l vs → RelL K cl H mu m ws → RelL K cl H mu (l ++ m) (vs ++ ws)
  | _, _, _, _, .nil, s => s
  | _, _, _, _, .cons h n r, s => .cons h n (RelL.append r s)
theorem RelL.take : ∀ (n : Nat) {l : List D} {vs : List V}, RelL K cl H mu l vs → RelL K cl H mu (l.take n) (vs.take n)
  | 0, _, _, _ => .nil
  | _ + 1, _, _, .nil => .nil
  | n + 1, _, _, .cons h z r => .cons h z (RelL.take n r)
theorem RelL.drop : ∀ (n : Nat) {l : List D} {vs : List V}, RelL K cl H mu l vs → RelL K cl H mu (l.drop n) (vs.drop n)
  | 0, _, _, r => r
  | _ + 1, _, _, .nil => .nil
  | n + 1, _, _, .cons _ _ r => RelL.drop n r
theorem RelL.rev : ∀ {l : List D} {vs : List V}, RelL K cl H mu l vs → RelL K cl H mu l.reverse vs.reverse
  | _, _, .nil => .nil
  | _, _, .cons h n r => by simp only [List.reverse_cons]; exact (RelL.rev r).append (.cons h n .nil)
theorem RelL.set : ∀ (i : Nat) {l : List D} {vs : List V} {d : D} {v : V}, RelL K cl H mu l vs → RelD K cl H mu d v → d.isRef = false → RelL K cl H mu (l.set i d) (vs.set i v)
  | _, _, _, _, _, .nil, _, _ => .nil
  | 0, _, _, _, _, .cons _ _ r, q, n => .cons q n r
  | i + 1, _, _, _, _, .cons h z r, q, n => .cons h z (RelL.set i r q n)
theorem RelL.ints : ∀ {ns : List Int} {vs : List V}, RelL K cl H mu (ns.map D.int) vs → vs = ns.map V.int
  | [], _, .nil => rfl
  | _ :: _, _, .cons h _ r => by cases h; rw [RelL.ints r]; rfl
theorem RelL.of_ints : ∀ (ns : List Int), RelL K cl H mu (ns.map D.int) (ns.map V.int)
  | [] => .nil
  | n :: ns => .cons (.int n) rfl (RelL.of_ints ns)
theorem RelL.bls : ∀ {ns : List Bool} {vs : List V}, RelL K cl H mu (ns.map D.bl) vs → vs = ns.map V.bl
  | [], _, .nil => rfl
  | _ :: _, _, .cons h _ r => by cases h; rw [RelL.bls r]; rfl
end
section
variable {K : PySem.W.Frag} {cl : Nat → Addr → Prop} {H H1 : Hp} {mu nu : List Addr} {h : Hpp}
theorem FzL.cut {a : Addr} {vs : List V} (x : FzL K H (mu ++ nu) a vs) : FzL K H mu a vs := x.elim (fun z => .inl ⟨fun m => z.1 (List.mem_append_left _ m), z.2⟩) .inr
theorem FzT.cut {a : Addr} {vs : List V} (x : FzT K H (mu ++ nu) a vs) : FzT K H mu a vs := x.elim (fun z => .inl ⟨fun m => z.1 (List.mem_append_left _ m), z.2⟩) .inr
theorem ObjAt.cut {a C dx : Addr} {vs : List (Option V)} (x : ObjAt H (mu ++ nu) a C dx vs) : ObjAt H mu a C dx vs := by
  obtain ⟨h0, z | ⟨h1, z⟩⟩ := x
  · exact ⟨fun m => h0 (List.mem_append_left _ m), .inl z⟩
  · exact ⟨fun m => h0 (List.mem_append_left _ m), .inr ⟨fun m => h1 (List.mem_append_left _ m), z⟩⟩
mutual
theorem RelD.cut : ∀ {d : D} {v : V}, d.isRef = false → RelD K cl H (mu ++ nu) d v → RelD K cl H mu d v
  | _, _, _, .non => .non
  | _, _, _, .bl b => .bl b
  | _, _, _, .int b => .int b
  | _, _, _, .str b => .str b
  | _, _, _, .tup h z r => .tup h.cut z (RelL.cut r)
  | _, _, _, .lst h q z r => .lst (fun m => h (List.mem_append_left _ m)) q z (RelL.cut r)
  | _, _, _, .frl h z r => .frl h.cut z (RelL.cut r)
  | _, _, _, .rng h r => .rng (fun m => h (List.mem_append_left _ m)) r
  | _, _, _, .obj h r q => .obj h r.cut (RelO.cut q)
  | _, _, _, .ty n => .ty n
  | _, _, _, .cls h => .cls h
  | _, _, _, .exn a => .exn a
  | _, _, z, .ref h => by cases z
theorem RelL.cut : ∀ {d : List D} {v : List V}, RelL K cl H (mu ++ nu) d v → RelL K cl H mu d v
  | _, _, .nil => .nil
  | _, _, .cons h n r => .cons (RelD.cut n h) n (RelL.cut r)
theorem RelO.cut : ∀ {d : List (Option D)} {v : List (Option V)}, RelO K cl H (mu ++ nu) d v → RelO K cl H mu d v
  | _, _, .nil => .nil
  | _, _, .none r => .none (RelO.cut r)
  | _, _, .some h n r => .some (RelD.cut n h) n (RelO.cut r)
end
theorem RelC.cut {c : Cell} {a : Addr} (r : RelC K cl H (mu ++ nu) c a) : RelC K cl H mu c a := by
  cases c with
  | lst l => obtain ⟨vs, e, z, q⟩ := r; exact ⟨vs, e, z, q.cut⟩
  | ins c l =>
    obtain ⟨C, dx, vs, h1, h2, h3, h4, h5, h6⟩ := r
    exact ⟨C, dx, vs, h1, h2, fun m => h3 (List.mem_append_left _ m), h4, h5, h6.cut⟩
theorem RepH.cut (r : RepH K cl H (mu ++ nu) h) : RepH K cl H mu (h.take mu.length) := by
  have hl := r.len
  rw [List.length_append] at hl
  refine ⟨by rw [List.length_take]; omega, (List.nodup_append.mp r.nd).1, fun n a c e e' => ?_⟩
  have hn := (List.getElem?_eq_some_iff.mp e).1
  rw [List.getElem?_take_of_lt hn] at e'
  exact (r.cells n a c (by rw [List.getElem?_append_left hn]; exact e) e').cut
theorem Ext.cut (e : Ext H mu H1 (mu ++ nu)) : Ext H mu H1 mu := ⟨⟨[], by simp⟩, fun a h n => absurd h n, e.frz⟩
theorem RelX.cut {c : Nat} {l : Flds} {cls : Value} {dx : Option Addr} (x : RelX K cl H (mu ++ nu) c l cls dx) : RelX K cl H mu c l cls dx := by
  obtain ⟨C, dd, fs, e1, e2, e3, e4, e5, e6⟩ := x
  refine ⟨C, dd, fs, e1, e2, e3, fun m => e4 (List.mem_append_left _ m), e5, fun f d q => ?_⟩
  obtain ⟨n, v, a, b⟩ := e6 f d q
  exact ⟨n, v, a, b.cut n⟩
end
/-- what stands in a list: a frozen one, or a live cell's -/
def asL (d : D) (h : Hpp) : Option (List D) := match d with
  | .lst l => some l
  | .frl l => some l
  | .ref n => match h[n]? with
    | some (.lst l) => some l
    | _ => none
  | _ => none
/-- .. in a list or a tuple -/
def asS (d : D) (h : Hpp) : Option (List D) := match d with
  | .tup l => some l
  | _ => asL d h
/-- .. in a list that surely is no one's of the text -/
def asN (d : D) (h : Hpp) : Option (List D) := match d with
  | .frl _ => none
  | _ => asL d h
section
variable {K : PySem.W.Frag} {cl : Nat → Addr → Prop} {H H1 : Hp} {mu : List Addr} {h : Hpp}
theorem asN_of {d : D} {v : V} {l : List D} (r : RepH K cl H mu h) (q : RelD K cl H mu d v) (e : asN d h = some l) : ∃ a vs, v = .ref a ∧ H a = some (.lst vs) ∧ RelL K cl H mu l vs ∧ l.length ≤ LINE := by
  cases q with
  | lst h1 h2 h4 h3 =>
    have e' : some _ = some l := e
    cases e'
    exact ⟨_, _, rfl, h2, h3, h4⟩
  | @ref n a hn =>
    have e' : (match h[n]? with | some (Cell.lst l) => some l | _ => none) = some l := e
    split at e'
    · rename_i l' hh
      cases e'
      obtain ⟨vs, w, z, q⟩ := r.cells n a _ hn hh
      exact ⟨a, vs, rfl, w, q, z⟩
    · cases e'
  | _ => cases e
theorem asL_of {d : D} {v : V} {l : List D} (r : RepH K cl H mu h) (q : RelD K cl H mu d v) (e : asL d h = some l) : ∃ a vs, v = .ref a ∧ SqL K H a vs ∧ RelL K cl H mu l vs ∧ l.length ≤ LINE := by
  cases q with
  | frl h1 h3 h2 =>
    have e' : some _ = some l := e
    cases e'
    exact ⟨_, _, rfl, h1.sq, h2, h3⟩
  | lst h1 h2 h4 h3 =>
    obtain ⟨a, vs, e1, e2, e3⟩ := asN_of (d := .lst _) r (.lst h1 h2 h4 h3) e
    exact ⟨a, vs, e1, SqL.of e2, e3⟩
  | ref hn =>
    obtain ⟨a, vs, e1, e2, e3⟩ := asN_of (d := .ref _) r (.ref hn) e
    exact ⟨a, vs, e1, SqL.of e2, e3⟩
  | _ => cases e
theorem asS_of {d : D} {v : V} {l : List D} (r : RepH K cl H mu h) (q : RelD K cl H mu d v) (e : asS d h = some l) : ∃ a vs, v = .ref a ∧ (SqL K H a vs ∨ SqT K H a vs) ∧ RelL K cl H mu l vs ∧ l.length ≤ LINE := by
  cases q with
  | tup h1 h3 h2 =>
    have e' : some _ = some l := e
    cases e'
    exact ⟨_, _, rfl, .inr h1.sq, h2, h3⟩
  | lst h1 h2 h4 h3 => obtain ⟨a, vs, e1, e2, e3⟩ := asL_of (d := .lst _) r (.lst h1 h2 h4 h3) e; exact ⟨a, vs, e1, .inl e2, e3⟩
  | frl h1 h4 h2 => obtain ⟨a, vs, e1, e2, e3⟩ := asL_of (d := .frl _) r (.frl h1 h4 h2) e; exact ⟨a, vs, e1, .inl e2, e3⟩
  | ref hn => obtain ⟨a, vs, e1, e2, e3⟩ := asL_of (d := .ref _) r (.ref hn) e; exact ⟨a, vs, e1, .inl e2, e3⟩
  | _ => cases e
end

structure Ctx where
  K : PySem.W.Frag
  cl : Nat → Addr → Prop
  H0 : Hp
  mu0 : List Addr
structure SR (C : Ctx) (mu : List Addr) (env : Env) (h : Hpp) (s : L2.St) (H : Hp) : Prop where
  ext : Ext C.H0 C.mu0 H mu
  hp : RepH C.K C.cl H mu h
  en : RelE C.K C.cl H mu env s
/-- a semantic end is what is wanted -/
def Post {a b : Type} (C : Ctx) (H : Hp) (mu : List Addr) (Rl : Hp → List Addr → a → b → Prop) (r : R a) (Q : b → Hp → Prop) (E : XK) : Prop := match r with
  | .ok d h => ∀ (mu' : List Addr) (v : b) (H' : Hp), Ext H mu H' mu' → RepH C.K C.cl H' mu' h → Rl H' mu' d v → Q v H'
  | .exc c l h => ∀ (mu' : List Addr) (cls : Value) (dx : Option Addr) (H' : Hp), Ext H mu H' mu' → RepH C.K C.cl H' mu' h → RelX C.K C.cl H' mu' c l cls dx → E cls dx H'
  | .no => False
theorem Post.shift {a b : Type} {C : Ctx} {H H2 : Hp} {mu mu2 : List Addr} {Rl : Hp → List Addr → a → b → Prop} {r : R a} {Q : b → Hp → Prop} {E : XK} (e : Ext H mu H2 mu2) (p : Post C H mu Rl r Q E) : Post C H2 mu2 Rl r Q E := by
  cases r with
  | ok d h => exact fun mu' v H' e' => p mu' v H' (e.trans e')
  | exc c l h => exact fun mu' cls dx H' e' => p mu' cls dx H' (e.trans e')
  | no => exact p
theorem Post.mono {a b : Type} {C : Ctx} {H : Hp} {mu : List Addr} {Rl : Hp → List Addr → a → b → Prop} {r : R a} {Q Q' : b → Hp → Prop} {E E' : XK} (p : Post C H mu Rl r Q E) (hq : ∀ v H, Q v H → Q' v H) (he : ∀ c d H, E c d H → E' c d H) : Post C H mu Rl r Q' E' := by
  cases r with
  | ok d h => exact fun mu' v H' e' r1 r2 => hq _ _ (p mu' v H' e' r1 r2)
  | exc c l h => exact fun mu' cls dx H' e' r1 r2 => he _ _ _ (p mu' cls dx H' e' r1 r2)
  | no => exact p
theorem Post.bind {a b a' b' : Type} {C : Ctx} {H : Hp} {mu : List Addr} {Rl : Hp → List Addr → a → b → Prop} {Rl' : Hp → List Addr → a' → b' → Prop} {r : R a} {k : a → Hpp → R a'} {Q : b' → Hp → Prop} {E : XK} (p : Post C H mu Rl' (r.bind k) Q E) :
    Post C H mu Rl r (fun x H1 => ∃ mu1 d h1, Ext H mu H1 mu1 ∧ RepH C.K C.cl H1 mu1 h1 ∧ Rl H1 mu1 d x ∧ Post C H1 mu1 Rl' (k d h1) Q E) E := by
  cases r with
  | ok d h => exact fun mu' v H' e' r1 r2 => ⟨mu', d, h, e', r1, r2, Post.shift e' p⟩
  | exc c l h => exact p
  | no => exact p
abbrev RlD (C : Ctx) : Hp → List Addr → D → V → Prop := fun H mu => RelD C.K C.cl H mu
/-- arguments: cells among them -/
abbrev RelA (C : Ctx) : Hp → List Addr → List D → List V → Prop := fun H mu => Paired (RelD C.K C.cl H mu)
abbrev RlB : Hp → List Addr → Bool → Bool → Prop := fun _ _ a b => a = b
/-- the reading of an expression, a list of arguments, a test -/
def tE (C : Ctx) (W : WX) (m : EM) : TE := fun s H Q => ∃ mu env h, SR C mu env h s H ∧ Post C H mu (RlD C) (m env h) Q fun c d H' => W c d s H'
def tA (C : Ctx) (W : WX) (m : M (List D)) : TA := fun s H Q => ∃ mu env h, SR C mu env h s H ∧ Post C H mu (RelA C) (m env h) Q fun c d H' => W c d s H'
def tT (C : Ctx) (W : WX) (m : M Bool) : TT := fun s H Q => ∃ mu env h, SR C mu env h s H ∧ Post C H mu RlB (m env h) Q fun c d H' => W c d s H'
theorem RelA.ext {C : Ctx} {H H' : Hp} {mu mu' : List Addr} (e : Ext H mu H' mu') : ∀ {l : List D} {vs : List V}, RelA C H mu l vs → RelA C H' mu' l vs
  | _, _, .nil => .nil
  | _, _, .cons r t => .cons (r.ext e) (RelA.ext e t)
def noRefs (l : List D) : Bool := l.all fun d => !d.isRef
theorem RelA.rel {C : Ctx} {H : Hp} {mu : List Addr} : ∀ {l : List D} {vs : List V}, noRefs l = true → RelA C H mu l vs → RelL C.K C.cl H mu l vs
  | _, _, _, .nil => .nil
  | _, _, n, .cons r t => by
    simp only [noRefs, List.all_cons, Bool.and_eq_true, Bool.not_eq_true'] at n
    exact .cons r n.1 (RelA.rel n.2 t)
theorem RelL.args {C : Ctx} {H : Hp} {mu : List Addr} : ∀ {l : List D} {vs : List V}, RelL C.K C.cl H mu l vs → RelA C H mu l vs
  | _, _, .nil => .nil
  | _, _, .cons r _ t => .cons r (RelL.args t)
theorem SR.to {C : Ctx} {mu mu' : List Addr} {env : Env} {h h' : Hpp} {s : L2.St} {H H' : Hp} (r : SR C mu env h s H) (e : Ext H mu H' mu') (p : RepH C.K C.cl H' mu' h') : SR C mu' env h' s H' := ⟨r.ext.trans e, p, r.en.ext e⟩
/-- a statement's end is what is wanted -/
def PostS (C : Ctx) (W : WX) (H : Hp) (mu : List Addr) (r : SF) (D : Ends) : Prop := match r with
  | .nx e h => ∀ mu' s' H', Ext H mu H' mu' → SR C mu' e h s' H' → D.nx s' H'
  | .bk e h => ∀ mu' s' H', Ext H mu H' mu' → SR C mu' e h s' H' → D.bk s' H'
  | .ct e h => ∀ mu' s' H', Ext H mu H' mu' → SR C mu' e h s' H' → D.ct s' H'
  | .rt d h => ∀ mu' v H', Ext H mu H' mu' → Ext C.H0 C.mu0 H' mu' → RepH C.K C.cl H' mu' h → RelD C.K C.cl H' mu' d v → D.rt v H'
  | .exc c l e h => ∀ mu' cls dx s' H', Ext H mu H' mu' → SR C mu' e h s' H' → RelX C.K C.cl H' mu' c l cls dx → W cls dx s' H'
  | .no => False
def tS (C : Ctx) (W : WX) (m : SM) : TS := fun D s H => ∃ mu env h, SR C mu env h s H ∧ PostS C W H mu (m env h) D
theorem PostS.shift {C : Ctx} {W : WX} {H H2 : Hp} {mu mu2 : List Addr} {r : SF} {D : Ends} (e : Ext H mu H2 mu2) (p : PostS C W H mu r D) : PostS C W H2 mu2 r D := by
  cases r with
  | nx _ _ => exact fun mu' s' H' e' => p mu' s' H' (e.trans e')
  | bk _ _ => exact fun mu' s' H' e' => p mu' s' H' (e.trans e')
  | ct _ _ => exact fun mu' s' H' e' => p mu' s' H' (e.trans e')
  | rt _ _ => exact fun mu' v H' e' => p mu' v H' (e.trans e')
  | exc _ _ _ _ => exact fun mu' cls dx s' H' e' => p mu' cls dx s' H' (e.trans e')
  | no => exact p
end Nb
end
section
set_option Elab.async false
set_option linter.all false
set_option maxRecDepth 100000
set_option maxHeartbeats 1000000
namespace Nb
open PySem PySem.Spec PyProof.Rows L2

theorem PE.imp {X : Cx} {e : Expr} {t t' : TE} (h : PE X e t) (i : ∀ s H Q, t' s H Q → t s H Q) : PE X e t' := ⟨fun pins s σ H Q I q => h.run pins s σ H Q I (i σ H Q q)⟩
theorem PA.imp {X : Cx} {e : List Expr} {t t' : TA} (h : PA X e t) (i : ∀ s H Q, t' s H Q → t s H Q) : PA X e t' := ⟨fun pos pins s σ H Q I q => h.run pos pins s σ H Q I (i σ H Q q)⟩
theorem PT.imp {X : Cx} {e : Expr} {t t' : TT} (h : PT X e t) (i : ∀ s H Q, t' s H Q → t s H Q) : PT X e t' := ⟨fun pins s σ H Q I q => h.run pins s σ H Q I (i σ H Q q)⟩
theorem PW.imp {X : Cx} {e : Expr} {t t' : TT} (h : PW X e t) (i : ∀ s H Q, t' s H Q → t s H Q) : PW X e t' := ⟨fun wh pins s σ H Q I q => h.run wh pins s σ H Q I (i σ H Q q)⟩

section
variable {C : Ctx} {W : WX} {X : Cx} {H : Hp} {mu : List Addr} {env : Env} {h : Hpp} {s : L2.St}
/-- the steps of every rule: one part, then the rest -/
theorem tE_bind {a b : Type} {Rl' : Hp → List Addr → a → b → Prop} {m : EM} {k : D → Hpp → R a} {Q' : b → Hp → Prop} {Q : VK} (r : SR C mu env h s H) (p : Post C H mu Rl' ((m env h).bind k) Q' fun c d H' => W c d s H')
    (i : ∀ v H1 mu1 d h1, SR C mu1 env h1 s H1 → Ext H mu H1 mu1 → RelD C.K C.cl H1 mu1 d v → Post C H1 mu1 Rl' (k d h1) Q' (fun c d H' => W c d s H') → Q v H1) : tE C W m s H Q :=
  ⟨mu, env, h, r, (Post.bind (Rl := RlD C) p).mono (fun v H1 ⟨mu1, d, h1, e, rp, rd, q⟩ => i v H1 mu1 d h1 (r.to e rp) e rd q) fun _ _ _ z => z⟩
theorem tA_bind {a b : Type} {Rl' : Hp → List Addr → a → b → Prop} {m : M (List D)} {k : List D → Hpp → R a} {Q' : b → Hp → Prop} {Q : List V → Hp → Prop} (r : SR C mu env h s H) (p : Post C H mu Rl' ((m env h).bind k) Q' fun c d H' => W c d s H')
    (i : ∀ v H1 mu1 d h1, SR C mu1 env h1 s H1 → Ext H mu H1 mu1 → RelA C H1 mu1 d v → Post C H1 mu1 Rl' (k d h1) Q' (fun c d H' => W c d s H') → Q v H1) : tA C W m s H Q :=
  ⟨mu, env, h, r, (Post.bind (Rl := RelA C) p).mono (fun v H1 ⟨mu1, d, h1, e, rp, rd, q⟩ => i v H1 mu1 d h1 (r.to e rp) e rd q) fun _ _ _ z => z⟩
theorem tT_bind {a b : Type} {Rl' : Hp → List Addr → a → b → Prop} {m : M Bool} {k : Bool → Hpp → R a} {Q' : b → Hp → Prop} {Q : Bool → Hp → Prop} (r : SR C mu env h s H) (p : Post C H mu Rl' ((m env h).bind k) Q' fun c d H' => W c d s H')
    (i : ∀ (d : Bool) H1 mu1 h1, SR C mu1 env h1 s H1 → Ext H mu H1 mu1 → Post C H1 mu1 Rl' (k d h1) Q' (fun c d H' => W c d s H') → Q d H1) : tT C W m s H Q :=
  ⟨mu, env, h, r, (Post.bind (Rl := RlB) p).mono (fun v H1 ⟨mu1, d, h1, e, rp, rd, q⟩ => by cases rd; exact i _ H1 mu1 h1 (r.to e rp) e q) fun _ _ _ z => z⟩
end

def eVar (i : Nat) : EM := fun env h => match env[i]? with
  | some (some d) => .ok d h
  | _ => .no
def eC (d : D) : EM := fun _ h => .ok d h
section
variable {C : Ctx} {W : WX} {X : Cx} {pos : Pos}
theorem de_name {i : Nat} {e : Expr} (h : PE X e (tVar i)) : PE X e (tE C W (eVar i)) := PE.imp h fun s H Q ⟨mu, env, h, r, p⟩ => by
  unfold eVar at p
  split at p
  · rename_i d q
    obtain ⟨v, a, b⟩ := r.en.2 i d q
    exact ⟨v, a, p mu v H .refl r.hp b⟩
  · exact p.elim
theorem de_const {d : D} {v : V} {e : Expr} (h : PE X e (tC v)) (rd : ∀ H mu, RelD C.K C.cl H mu d v) : PE X e (tE C W (eC d)) := PE.imp h fun s H Q ⟨mu, env, h, r, p⟩ => p mu v H .refl r.hp (rd H mu)
theorem de_int {i : Int} {j pos} : PE X (.Constant (.int i) j pos) (tE C W (eC (.int i))) := de_const pe_int fun _ _ => .int i
theorem de_bl {b : Bool} {j pos} : PE X (.Constant (.bool b) j pos) (tE C W (eC (.bl b))) := de_const pe_bl fun _ _ => .bl b
theorem de_non {j pos} : PE X (.Constant .none j pos) (tE C W (eC .non)) := de_const pe_non fun _ _ => .non
theorem de_str {x : Str} {j pos} : PE X (.Constant (.str x) j pos) (tE C W (eC (.str x))) := de_const pe_str fun _ _ => .str x
end

abbrev Op2 := D → D → Hpp → R D
def eOp (f : Op2) (a b : EM) : EM := fun env h => (a env h).bind fun x h1 => (b env h1).bind fun y h2 => f x y h2
/-- f tells what the reading r asks -/
def Sim2 (C : Ctx) (f : Op2) (r : R2) : Prop := ∀ (H : Hp) (mu : List Addr) (h : Hpp) (d e : D) (x y : V) (Q : VK) (E : XK), RepH C.K C.cl H mu h → RelD C.K C.cl H mu d x → RelD C.K C.cl H mu e y → Post C H mu (RlD C) (f d e h) Q E → r x y H Q
section
variable {C : Ctx} {W : WX} {X : Cx} {pos : Pos} {a b : Expr} {ma mb : EM} {f : Op2} {r : R2}
theorem tOp_sim (sm : Sim2 C f r) : ∀ s H Q, tE C W (eOp f ma mb) s H Q → tOp r (tE C W ma) (tE C W mb) s H Q := fun s H Q ⟨mu, env, h, sr, p⟩ =>
  tE_bind (Rl' := RlD C) (Q' := Q) (m := ma) (k := fun x h1 => (mb env h1).bind fun y h2 => f x y h2) sr p fun v H1 mu1 d h1 sr1 e1 rd1 p1 => tE_bind (m := mb) sr1 p1 fun v2 H2 mu2 d2 h2 sr2 e2 rd2 p2 => sm H2 mu2 h2 d d2 v v2 Q _ sr2.hp (rd1.ext e2) rd2 p2
theorem de_op {op : Operator} (ho : OpR X (binaryOp op) r) (sm : Sim2 C f r) (ha : PE X a (tE C W ma)) (hb : PE X b (tE C W mb)) : PE X (.BinOp a op b pos) (tE C W (eOp f ma mb)) := PE.imp (pe_op ho ha hb) (tOp_sim sm)
theorem de_cmp {op : CmpOp} (ho : OpR X (compareOp op) r) (sm : Sim2 C f r) (ha : PE X a (tE C W ma)) (hb : PE X b (tE C W mb)) (hm : behindInMarks op b = false) : PE X (.Compare a [op] [b] pos) (tE C W (eOp f ma mb)) := PE.imp (pe_cmpR ho ha hb hm) (tOp_sim sm)
/-- a comparison as a test -/
def bOp (f : Op2) (a b : EM) : M Bool := fun env h => (eOp f a b env h).bind fun z h1 => match z with
  | .bl k => .ok k h1
  | _ => .no
theorem Post.assoc {a b c : Type} {d e : Type} (x : R a) (k : a → Hpp → R b) (l : b → Hpp → R c) : (x.bind k).bind l = x.bind fun y h => (k y h).bind l := by cases x <;> rfl
theorem dt_cmp {op : CmpOp} (ho : OpR X (compareOp op) r) (sm : Sim2 C f r) (ha : PE X a (tE C W ma)) (hb : PE X b (tE C W mb)) (hm : behindInMarks op b = false) : PT X (.Compare a [op] [b] pos) (tT C W (bOp f ma mb)) := PT.imp (pt_cmpR ho ha hb hm) fun s H Q ⟨mu, env, h, sr, p⟩ => by
  have p' : Post C H mu RlB ((ma env h).bind fun x h1 => (mb env h1).bind fun y h2 => (f x y h2).bind fun z h1 => match z with | .bl k => .ok k h1 | _ => .no) Q fun c d H' => W c d s H' := by
    have e : bOp f ma mb env h = ((ma env h).bind fun x h1 => (mb env h1).bind fun y h2 => (f x y h2).bind fun z h1 => match z with | .bl k => .ok k h1 | _ => .no) := by
      unfold bOp eOp
      cases ma env h with
      | ok x h1 =>
        show ((mb env h1).bind _).bind _ = (mb env h1).bind _
        cases mb env h1 <;> rfl
      | exc _ _ _ => rfl
      | no => rfl
    rw [← e]; exact p
  refine tE_bind (m := ma) sr p' fun v H1 mu1 d h1 sr1 e1 rd1 p1 => tE_bind (m := mb) sr1 p1 fun v2 H2 mu2 d2 h2 sr2 e2 rd2 p2 => sm H2 mu2 h2 d d2 v v2 _ (fun c d H' => W c d s H') sr2.hp (rd1.ext e2) rd2 ?_
  refine (Post.bind (Rl := RlD C) p2).mono (fun z H3 ⟨mu3, dz, h3, e3, rp3, rz, q3⟩ => ?_) fun _ _ _ z => z
  cases dz with
  | bl k =>
    cases rz
    exact ⟨k, rfl, q3 mu3 k H3 .refl rp3 rfl⟩
  | _ => exact q3.elim
end

def oI (c : Int → Int → Bool) (g : Int → Int → D) : Op2 := fun d e h => match d, e with
  | .int i, .int j => if c i j = true then .ok (g i j) h else .no
  | _, _ => .no
theorem sim_I {C : Ctx} {c : Int → Int → Bool} {P : Int → Int → Prop} {g : Int → Int → D} {gv : Int → Int → V} (hc : ∀ i j, c i j = true → P i j) (hg : ∀ H mu i j, RelD C.K C.cl H mu (g i j) (gv i j)) : Sim2 C (oI c g) (rI P gv) := by
  intro H mu h d e x y Q E rp rd re p
  unfold oI at p
  split at p
  · cases rd
    cases re
    split at p
    · rename_i q
      exact ⟨_, _, rfl, rfl, hc _ _ q, p mu _ H .refl rp (hg H mu _ _)⟩
    · exact p.elim
  · exact p.elim
def oI0 (g : Int → Int → D) : Op2 := fun d e h => match d, e with
  | .int i, .int j => .ok (g i j) h
  | _, _ => .no
theorem sim_I0 {C : Ctx} {g : Int → Int → D} {gv : Int → Int → V} (hg : ∀ H mu i j, RelD C.K C.cl H mu (g i j) (gv i j)) : Sim2 C (oI0 g) (rI0 gv) := by
  intro H mu h d e x y Q E rp rd re p
  unfold oI0 at p
  split at p
  · cases rd
    cases re
    exact ⟨_, _, rfl, rfl, p mu _ H .refl rp (hg H mu _ _)⟩
  · exact p.elim
abbrev oSub : Op2 := oI0 fun i j => .int (i - j)
abbrev oMul : Op2 := oI (fun i j => decide (-(2 ^ 64) < i ∧ i < 2 ^ 64) || decide (-(2 ^ 64) < j ∧ j < 2 ^ 64)) fun i j => .int (i * j)
abbrev oDiv : Op2 := oI (fun _ j => decide (0 < j) && decide (j < 1073741824)) fun i j => .int (i / j)
abbrev oMod : Op2 := oI (fun _ j => decide (0 < j)) fun i j => .int (i % j)
abbrev oPow : Op2 := oI (fun i j => decide (0 ≤ j) && (decide (j ≤ 1000000) && decide (i.natAbs < 2 ^ 64))) fun i j => .int (i ^ j.toNat)
abbrev oShl : Op2 := oI (fun i j => decide (0 ≤ j) && (decide (j ≤ 1000000) && decide (i.natAbs < 2 ^ 64))) fun i j => .int (i * 2 ^ j.toNat)
abbrev oShr : Op2 := oI (fun _ j => decide (0 ≤ j)) fun i j => .int (i / 2 ^ j.toNat)
abbrev oAnd : Op2 := oI0 fun i j => .int (Builtin.bitAnd i j)
abbrev oOr : Op2 := oI0 fun i j => .int (Builtin.bitOr i j)
section
variable {C : Ctx} {W : WX} {X : Cx} {pos : Pos} {a b : Expr} {ma mb : EM}
theorem de_sub (ha : PE X a (tE C W ma)) (hb : PE X b (tE C W mb)) : PE X (.BinOp a .Sub b pos) (tE C W (eOp oSub ma mb)) := de_op op_sub (sim_I0 fun _ _ _ _ => .int _) ha hb
theorem de_mul (ha : PE X a (tE C W ma)) (hb : PE X b (tE C W mb)) : PE X (.BinOp a .Mult b pos) (tE C W (eOp oMul ma mb)) := de_op op_mul (sim_I (fun i j q => by simpa [CMul] using q) fun _ _ _ _ => .int _) ha hb
theorem de_div (ha : PE X a (tE C W ma)) (hb : PE X b (tE C W mb)) : PE X (.BinOp a .FloorDiv b pos) (tE C W (eOp oDiv ma mb)) := de_op op_fdiv (sim_I (fun i j q => by simpa [CDiv] using q) fun _ _ _ _ => .int _) ha hb
theorem de_mod (ha : PE X a (tE C W ma)) (hb : PE X b (tE C W mb)) : PE X (.BinOp a .Mod b pos) (tE C W (eOp oMod ma mb)) := de_op op_mod (sim_I (fun i j q => by simpa using q) fun _ _ _ _ => .int _) ha hb
theorem de_pow (ha : PE X a (tE C W ma)) (hb : PE X b (tE C W mb)) : PE X (.BinOp a .Pow b pos) (tE C W (eOp oPow ma mb)) := de_op op_pow (sim_I (fun i j q => by simpa [CPow] using q) fun _ _ _ _ => .int _) ha hb
theorem de_shl (ha : PE X a (tE C W ma)) (hb : PE X b (tE C W mb)) : PE X (.BinOp a .LShift b pos) (tE C W (eOp oShl ma mb)) := de_op op_shl (sim_I (fun i j q => by simpa [CPow] using q) fun _ _ _ _ => .int _) ha hb
theorem de_shr (ha : PE X a (tE C W ma)) (hb : PE X b (tE C W mb)) : PE X (.BinOp a .RShift b pos) (tE C W (eOp oShr ma mb)) := de_op op_shr (sim_I (fun i j q => by simpa using q) fun _ _ _ _ => .int _) ha hb
theorem de_bitand (ha : PE X a (tE C W ma)) (hb : PE X b (tE C W mb)) : PE X (.BinOp a .BitAnd b pos) (tE C W (eOp oAnd ma mb)) := de_op op_and (sim_I0 fun _ _ _ _ => .int _) ha hb
theorem de_bitor (ha : PE X a (tE C W ma)) (hb : PE X b (tE C W mb)) : PE X (.BinOp a .BitOr b pos) (tE C W (eOp oOr ma mb)) := de_op op_or (sim_I0 fun _ _ _ _ => .int _) ha hb
end

def oAdd : Op2 := fun d e h => match d, e with
  | .int i, .int j => .ok (.int (i + j)) h
  | .tup a, .tup b => if a.length + b.length ≤ LINE then .ok (.tup (a ++ b)) h else .no
  | .str a, .str b => if a.length + b.length ≤ LINE then .ok (.str (a ++ b)) h else .no
  | _, _ => match asN d h, asN e h with
    | some a, some b => if a.length + b.length ≤ LINE then .ok (.lst (a ++ b)) h else .no
    | _, _ => .no
abbrev rAddAll (K : PySem.W.Frag) : R2 := fun x y H Q => rI0 (fun i j => .int (i + j)) x y H Q ∨ (rCatA K x y H Q ∨ ((∃ i j, x = .str i ∧ y = .str j ∧ i.length + j.length ≤ sizeLine ∧ Q (.str (i ++ j)) H) ∨ rCat x y H Q))
theorem sim_add {C : Ctx} : Sim2 C oAdd (rAddAll C.K) := by
  intro H mu h d e x y Q E rp rd re p
  have hl : sizeLine = LINE := sizeLine_eq
  unfold oAdd at p
  split at p
  · cases rd
    cases re
    exact .inl ⟨_, _, rfl, rfl, p mu _ H .refl rp (.int _)⟩
  · rename_i a b
    split at p
    · rename_i hz
      cases rd with
      | @tup _ pa va ra za la =>
      cases re with
      | @tup _ pb vb rb zb lb =>
        have l1 := la.len
        have l2 := lb.len
        refine .inr (.inl ⟨pa, pb, va, vb, rfl, rfl, ra.sq, rb.sq, by omega, fun e => ?_, fun e e' => ?_, fun _ _ q hq => ?_⟩)
        · subst e
          cases la
          exact p mu _ H .refl rp (.tup rb zb lb)
        · subst e'
          cases lb
          refine p mu _ H .refl rp (.tup ra (by simpa using za) (by simpa using la))
        · exact p mu _ _ (Ext.nw hq) (rp.nw hq) (fz_tup rp hq (by rw [List.length_append]; exact hz) (la.append lb))
    · exact p.elim
  · split at p
    · rename_i hz
      cases rd
      cases re
      exact .inr (.inr (.inl ⟨_, _, rfl, rfl, by omega, p mu _ H .refl rp (.str _)⟩))
    · exact p.elim
  · split at p
    · rename_i a b ha hb
      split at p
      · rename_i hz
        obtain ⟨pa, va, e1, e2, la, za⟩ := asN_of rp rd ha
        obtain ⟨pb, vb, e3, e4, lb, zb⟩ := asN_of rp re hb
        have l1 := la.len
        have l2 := lb.len
        refine .inr (.inr (.inr ⟨pa, pb, va, vb, e1, e3, e2, e4, by omega, fun q hq => ?_⟩))
        exact p mu _ _ (Ext.nw hq) (rp.nw hq) (fz_lst rp hq (by rw [List.length_append]; exact hz) (la.append lb))
      · exact p.elim
    · exact p.elim
section
variable {C : Ctx} {W : WX} {X : Cx} {pos : Pos} {a b : Expr} {ma mb : EM}
theorem de_add (hK : X.K = C.K) (ha : PE X a (tE C W ma)) (hb : PE X b (tE C W mb)) : PE X (.BinOp a .Add b pos) (tE C W (eOp oAdd ma mb)) :=
  de_op (r := rAddAll C.K) (by rw [← hK]; exact OpR.or op_add (OpR.or op_catA (OpR.or op_add_str op_cat))) sim_add ha hb
end

mutual
def toPy : D → PyData
  | .non => .none
  | .bl b => .bool b
  | .int i => .int i
  | .str x => .str x
  | .tup l => .tuple (toPyL l)
  | .lst l => .list (toPyL l)
  | .frl l => .list (toPyL l)
  | .rng _ _ => .none
  | .obj _ _ => .none
  | .ty _ => .none
  | .cls _ => .none
  | .exn _ => .none
  | .ref _ => .none
def toPyL : List D → List PyData
  | [] => []
  | d :: l => toPy d :: toPyL l
end
mutual
def isPy : D → Bool
  | .non => true
  | .bl _ => true
  | .int _ => true
  | .str _ => true
  | .tup l => isPyL l
  | .lst l => isPyL l
  | .frl l => isPyL l
  | .rng _ _ => false
  | .obj _ _ => false
  | .ty _ => false
  | .cls _ => false
  | .exn _ => false
  | .ref _ => false
def isPyL : List D → Bool
  | [] => true
  | d :: l => isPy d && isPyL l
end
mutual
theorem RelD.dp {K : PySem.W.Frag} {cl : Nat → Addr → Prop} {H : Hp} {mu : List Addr} : ∀ {d : D} {v : V}, isPy d = true → RelD K cl H mu d v → Dp K H v (toPy d)
  | _, _, _, .non => by rw [toPy]; exact .non
  | _, _, _, .bl b => by rw [toPy]; exact .bl b
  | _, _, _, .int b => by rw [toPy]; exact .int b
  | _, _, _, .str b => by rw [toPy]; exact .str b
  | _, _, q, .tup h z r => by rw [isPy] at q; rw [toPy]; exact .tup h.sq (RelL.dp q r)
  | _, _, q, .lst h w z r => by rw [isPy] at q; rw [toPy]; exact .lst (SqL.of w) (RelL.dp q r)
  | _, _, q, .frl h z r => by rw [isPy] at q; rw [toPy]; exact .lst h.sq (RelL.dp q r)
  | _, _, q, .rng h r => by rw [isPy] at q; cases q
  | _, _, q, .obj h r z => by rw [isPy] at q; cases q
  | .ty _, _, q, .ty _ => by rw [isPy] at q; cases q
  | _, _, q, .cls h => by rw [isPy] at q; cases q
  | .exn _, _, q, .exn _ => by rw [isPy] at q; cases q
  | _, _, q, .ref h => by rw [isPy] at q; cases q
theorem RelL.dp {K : PySem.W.Frag} {cl : Nat → Addr → Prop} {H : Hp} {mu : List Addr} : ∀ {d : List D} {v : List V}, isPyL d = true → RelL K cl H mu d v → DpAll K H v (toPyL d)
  | _, _, _, .nil => by rw [toPyL]; exact .nil
  | _, _, q, .cons h n r => by
    rw [isPyL, Bool.and_eq_true] at q
    rw [toPyL]; exact .cons (RelD.dp q.1 h) (RelL.dp q.2 r)
end
def pyOf (d : D) (h : Hpp) : Option PyData := match d with
  | .ref n => match h[n]? with
    | some (.lst l) => if isPyL l = true then some (.list (toPyL l)) else none
    | _ => none
  | _ => if isPy d = true then some (toPy d) else none
theorem pyOf_dp {K : PySem.W.Frag} {cl : Nat → Addr → Prop} {H : Hp} {mu : List Addr} {h : Hpp} {d : D} {v : V} {p : PyData} (rp : RepH K cl H mu h) (rd : RelD K cl H mu d v) (e : pyOf d h = some p) : Dp K H v p := by
  unfold pyOf at e
  split at e
  · split at e
    · rename_i l hh
      split at e
      · rename_i q
        cases e
        cases rd with
        | ref hn =>
          obtain ⟨vs, w, _, r⟩ := rp.cells _ _ _ hn hh
          exact .lst (SqL.of w) (r.dp q)
      · cases e
    · cases e
  · split at e
    · rename_i q
      cases e
      exact rd.dp q
    · cases e
def oEq : Op2 := fun d e h => match pyOf d h, pyOf e h with
  | some a, some b => if (SeqAt.shaped a && SeqAt.shaped b) = true then .ok (.bl (PyData.eqv a b)) h else .no
  | _, _ => .no
def oNe : Op2 := fun d e h => match pyOf d h, pyOf e h with
  | some a, some b => if (SeqAt.shaped a && SeqAt.shaped b) = true then .ok (.bl (!PyData.eqv a b)) h else .no
  | _, _ => .no
theorem sim_eq {C : Ctx} : Sim2 C oEq (rEqD C.K) := by
  intro H mu h d e x y Q E rp rd re p
  unfold oEq at p
  split at p
  · rename_i a b ha hb
    split at p
    · rename_i q
      rw [Bool.and_eq_true] at q
      exact ⟨a, b, pyOf_dp rp rd ha, pyOf_dp rp re hb, q.1, q.2, p mu _ H .refl rp (.bl _)⟩
    · exact p.elim
  · exact p.elim
theorem sim_ne {C : Ctx} : Sim2 C oNe (rNeD C.K) := by
  intro H mu h d e x y Q E rp rd re p
  unfold oNe at p
  split at p
  · rename_i a b ha hb
    split at p
    · rename_i q
      rw [Bool.and_eq_true] at q
      exact ⟨a, b, pyOf_dp rp rd ha, pyOf_dp rp re hb, q.1, q.2, p mu _ H .refl rp (.bl _)⟩
    · exact p.elim
  · exact p.elim
def rInT (K : PySem.W.Frag) (neg : Bool) : R2 := fun x y H Q => ∃ d ds, Dp K H x d ∧ (Dp K H y (.list ds) ∨ Dp K H y (.tuple ds)) ∧ SeqAt.shaped d = true ∧ PyData.canLayAll0 ds = true ∧ Q (.bl (if neg then !ds.any fun z => PyData.eqv z d else ds.any fun z => PyData.eqv z d)) H
theorem op_inT {X : Cx} (hu : X.A.units + 65 < cLine) : OpR X (compareOp .In) (rInT X.K false) := by
  intro pins s σ H x y v u Q I rx ry h
  obtain ⟨d, ds, hd, he, sd, se, q⟩ := h
  obtain ⟨as, r1⟩ := Dp.reads I d x v hd rx
  rcases he with he | he
  · obtain ⟨bs, r2⟩ := Dp.reads I (.list ds) y u he ry
    exact SeqAt.in_list_reads r2 r1 se (SeqAt.canLay_of_shaped sd) (room_in_shaped sd hu) ⟨.bl _, H, I, rfl, q⟩
  · obtain ⟨bs, r2⟩ := Dp.reads I (.tuple ds) y u he ry
    exact SeqAt.in_tuple_reads r2 r1 se (SeqAt.canLay_of_shaped sd) (room_in_shaped sd hu) ⟨.bl _, H, I, rfl, q⟩
theorem op_notInT {X : Cx} (hu : X.A.units + 65 < cLine) : OpR X (compareOp .NotIn) (rInT X.K true) := by
  intro pins s σ H x y v u Q I rx ry h
  obtain ⟨d, ds, hd, he, sd, se, q⟩ := h
  obtain ⟨as, r1⟩ := Dp.reads I d x v hd rx
  rcases he with he | he
  · obtain ⟨bs, r2⟩ := Dp.reads I (.list ds) y u he ry
    exact SeqAt.notIn_list_reads r2 r1 se (SeqAt.canLay_of_shaped sd) (room_in_shaped sd hu) ⟨.bl _, H, I, rfl, q⟩
  · obtain ⟨bs, r2⟩ := Dp.reads I (.tuple ds) y u he ry
    exact SeqAt.notIn_tuple_reads r2 r1 se (SeqAt.canLay_of_shaped sd) (room_in_shaped sd hu) ⟨.bl _, H, I, rfl, q⟩
def oIn (neg : Bool) : Op2 := fun d e h => match pyOf d h, pyOf e h with
  | some a, some (.list ds) => if (SeqAt.shaped a && PyData.canLayAll0 ds) = true then .ok (.bl (if neg then !ds.any fun z => PyData.eqv z a else ds.any fun z => PyData.eqv z a)) h else .no
  | some a, some (.tuple ds) => if (SeqAt.shaped a && PyData.canLayAll0 ds) = true then .ok (.bl (if neg then !ds.any fun z => PyData.eqv z a else ds.any fun z => PyData.eqv z a)) h else .no
  | _, _ => .no
theorem sim_in {C : Ctx} {neg : Bool} : Sim2 C (oIn neg) (rInT C.K neg) := by
  intro H mu h d e x y Q E rp rd re p
  unfold oIn at p
  split at p
  · rename_i a ds ha hb
    split at p
    · rename_i q
      rw [Bool.and_eq_true] at q
      exact ⟨a, ds, pyOf_dp rp rd ha, .inl (pyOf_dp rp re hb), q.1, q.2, p mu _ H .refl rp (.bl _)⟩
    · exact p.elim
  · rename_i a ds ha hb
    split at p
    · rename_i q
      rw [Bool.and_eq_true] at q
      exact ⟨a, ds, pyOf_dp rp rd ha, .inr (pyOf_dp rp re hb), q.1, q.2, p mu _ H .refl rp (.bl _)⟩
    · exact p.elim
  · exact p.elim

def oCmp (g : Int → Int → Bool) : Op2 := oI0 fun i j => .bl (g i j)
def D.isNon : D → Bool
  | .non => true
  | _ => false
theorem RelD.isNon {K : PySem.W.Frag} {cl : Nat → Addr → Prop} {H : Hp} {mu : List Addr} {d : D} {x : V} (rd : RelD K cl H mu d x) : d.isNon = decide (x = .non) := by cases rd <;> simp [D.isNon]
def oIs (neg : Bool) : Op2 := fun d e h => match e with
  | .non => .ok (.bl (if neg then !d.isNon else d.isNon)) h
  | .bl b => match d with
    | .bl a => .ok (.bl (if neg then !decide (a = b) else decide (a = b))) h
    | _ => .no
  | _ => .no
theorem sim_is {C : Ctx} : Sim2 C (oIs false) (fun x y H Q => (y = .non ∧ Q (.bl (decide (x = .non))) H) ∨ rIsB x y H Q) := by
  intro H mu h d e x y Q E rp rd re p
  unfold oIs at p
  split at p
  · cases re
    refine .inl ⟨rfl, ?_⟩
    have p' := p mu _ H .refl rp (.bl _)
    rw [if_neg Bool.false_ne_true, rd.isNon] at p'
    exact p'
  · cases re
    split at p
    · cases rd
      exact .inr ⟨_, _, rfl, rfl, p mu _ H .refl rp (.bl _)⟩
    · exact p.elim
  · exact p.elim
theorem sim_isnot {C : Ctx} : Sim2 C (oIs true) (fun x y H Q => (y = .non ∧ Q (.bl (!decide (x = .non))) H) ∨ rNotB x y H Q) := by
  intro H mu h d e x y Q E rp rd re p
  unfold oIs at p
  split at p
  · cases re
    refine .inl ⟨rfl, ?_⟩
    have p' := p mu _ H .refl rp (.bl _)
    rw [if_pos rfl, rd.isNon] at p'
    exact p'
  · cases re
    split at p
    · cases rd
      exact .inr ⟨_, _, rfl, rfl, p mu _ H .refl rp (.bl _)⟩
    · exact p.elim
  · exact p.elim
end Nb
end
section
set_option Elab.async false
set_option linter.all false
set_option maxRecDepth 100000
set_option maxHeartbeats 1000000
namespace Nb
open PySem PySem.Spec PyProof.Rows L2

def asB (m : EM) : M Bool := fun env h => (m env h).bind fun z h1 => match z with
  | .bl k => .ok k h1
  | _ => .no
section
variable {C : Ctx} {W : WX} {X : Cx} {pos : Pos} {a b c e : Expr} {rest : List Expr} {ma mb mc : EM} {ta tb : M Bool}
def eAnd (a b : EM) : EM := fun env h => (a env h).bind fun x h1 => match x with
  | .bl true => b env h1
  | .bl false => .ok (.bl false) h1
  | _ => .no
def eOr (a b : EM) : EM := fun env h => (a env h).bind fun x h1 => match x with
  | .bl true => .ok (.bl true) h1
  | .bl false => b env h1
  | _ => .no
def eNot (a : EM) : EM := fun env h => (a env h).bind fun x h1 => match x with
  | .bl k => .ok (.bl (!k)) h1
  | _ => .no
theorem de_one {op} (ha : PE X a (tE C W ma)) : PE X (.BoolOp op [a] pos) (tE C W ma) := pe_one ha
theorem de_and (ha : PE X a (tE C W ma)) (hb : PE X (.BoolOp .And (b :: rest) pos) (tE C W mb)) : PE X (.BoolOp .And (a :: b :: rest) pos) (tE C W (eAnd ma mb)) := PE.imp (pe_and ha hb) fun s H Q ⟨mu, env, h, sr, p⟩ => by
  refine tE_bind (m := ma) sr p fun v H1 mu1 d h1 sr1 e1 rd1 p1 => ?_
  split at p1
  · cases rd1; exact ⟨true, rfl, by rw [if_pos rfl]; exact ⟨mu1, env, h1, sr1, p1⟩⟩
  · cases rd1; exact ⟨false, rfl, by rw [if_neg Bool.false_ne_true]; exact p1 mu1 _ H1 .refl sr1.hp (.bl _)⟩
  · exact p1.elim
theorem de_or (ha : PE X a (tE C W ma)) (hb : PE X (.BoolOp .Or (b :: rest) pos) (tE C W mb)) : PE X (.BoolOp .Or (a :: b :: rest) pos) (tE C W (eOr ma mb)) := PE.imp (pe_or ha hb) fun s H Q ⟨mu, env, h, sr, p⟩ => by
  refine tE_bind (m := ma) sr p fun v H1 mu1 d h1 sr1 e1 rd1 p1 => ?_
  split at p1
  · cases rd1; exact ⟨true, rfl, by rw [if_pos rfl]; exact p1 mu1 _ H1 .refl sr1.hp (.bl _)⟩
  · cases rd1; exact ⟨false, rfl, by rw [if_neg Bool.false_ne_true]; exact ⟨mu1, env, h1, sr1, p1⟩⟩
  · exact p1.elim
def bAnd (a b : M Bool) : M Bool := fun env h => (a env h).bind fun x h1 => if x = true then b env h1 else .ok false h1
def bOr (a b : M Bool) : M Bool := fun env h => (a env h).bind fun x h1 => if x = true then .ok true h1 else b env h1
def bNot (a : M Bool) : M Bool := fun env h => (a env h).bind fun x h1 => .ok (!x) h1
theorem dw_and1 (ha : PT X a (tT C W ta)) : PW X (.BoolOp .And [a] pos) (tT C W ta) := pw_and1 ha
theorem dw_or1 (ha : PT X a (tT C W ta)) : PW X (.BoolOp .Or [a] pos) (tT C W ta) := pw_or1 ha
theorem dw_and (ha : PT X a (tT C W ta)) (hb : PW X (.BoolOp .And (b :: rest) pos) (tT C W tb)) : PW X (.BoolOp .And (a :: b :: rest) pos) (tT C W (bAnd ta tb)) := PW.imp (pw_and ha hb) fun s H Q ⟨mu, env, h, sr, p⟩ => by
  refine tT_bind (m := ta) sr p fun d H1 mu1 h1 sr1 e1 p1 => ?_
  split at p1
  · rename_i z; rw [if_pos z]; exact ⟨mu1, env, h1, sr1, p1⟩
  · rename_i z; rw [if_neg z]; exact p1 mu1 false H1 .refl sr1.hp rfl
theorem dw_or (ha : PT X a (tT C W ta)) (hb : PW X (.BoolOp .Or (b :: rest) pos) (tT C W tb)) : PW X (.BoolOp .Or (a :: b :: rest) pos) (tT C W (bOr ta tb)) := PW.imp (pw_or ha hb) fun s H Q ⟨mu, env, h, sr, p⟩ => by
  refine tT_bind (m := ta) sr p fun d H1 mu1 h1 sr1 e1 p1 => ?_
  split at p1
  · rename_i z; rw [if_pos z]; exact p1 mu1 true H1 .refl sr1.hp rfl
  · rename_i z; rw [if_neg z]; exact ⟨mu1, env, h1, sr1, p1⟩
theorem dt_bool {op} (h : PW X (.BoolOp op rest pos) (tT C W ta)) : PT X (.BoolOp op rest pos) (tT C W ta) := h.pt
theorem dt_not (ha : PT X a (tT C W ta)) : PT X (.UnaryOp .Not a pos) (tT C W (bNot ta)) := PT.imp (pt_not ha) fun s H Q ⟨mu, env, h, sr, p⟩ =>
  tT_bind (m := ta) sr p fun d H1 mu1 h1 sr1 e1 p1 => p1 mu1 _ H1 .refl sr1.hp rfl
/-- not e as a value, e a test -/
theorem de_not (ha : PE X a (tE C W ma)) : PE X (.UnaryOp .Not a pos) (tE C W (eNot ma)) := PE.imp (pe_not ha) fun s H Q ⟨mu, env, h, sr, p⟩ => by
  refine tE_bind (m := ma) sr p fun v H1 mu1 d h1 sr1 e1 rd1 p1 => ?_
  split at p1
  · cases rd1; exact ⟨_, rfl, p1 mu1 _ H1 .refl sr1.hp (.bl _)⟩
  · exact p1.elim
def truth (d : D) (h : Hpp) : Option Bool := match d with
  | .non => some false
  | .bl b => some b
  | .int i => some (i != 0)
  | .str x => if x.length ≤ LINE then some ((x.length : Int) != 0) else none
  | _ => (asS d h).map fun l => !l.isEmpty
def bTru (m : EM) : M Bool := fun env h => (m env h).bind fun x h1 => match truth x h1 with
  | some k => .ok k h1
  | none => .no
theorem isEmpty_rel {K : PySem.W.Frag} {cl : Nat → Addr → Prop} {H : Hp} {mu : List Addr} {l : List D} {vs : List V} (r : RelL K cl H mu l vs) : vs.isEmpty = l.isEmpty := by
  cases r <;> rfl
theorem truth_tru {K : PySem.W.Frag} {cl : Nat → Addr → Prop} {H : Hp} {mu : List Addr} {h : Hpp} {d : D} {v : V} {k : Bool} (rp : RepH K cl H mu h) (rd : RelD K cl H mu d v) (e : truth d h = some k) : TruV K v H k := by
  have hl : sizeLine = LINE := sizeLine_eq
  have key : ∀ l, asS d h = some l → k = !l.isEmpty → TruV K v H k := fun l q z => by
    obtain ⟨a, vs, e1, e2, e3, _⟩ := asS_of rp rd q
    subst e1
    rcases e2 with e2 | e2
    · exact .inl ⟨vs, e2, by rw [isEmpty_rel e3]; exact z⟩
    · exact .inr (.inl ⟨vs, e2, by rw [isEmpty_rel e3]; exact z⟩)
  cases d with
  | non => cases rd; cases e; rfl
  | bl b => cases rd; cases e; rfl
  | int i => cases rd; cases e; rfl
  | str x =>
    cases rd
    simp only [truth] at e
    split at e
    · rename_i q; cases e; exact ⟨by omega, rfl⟩
    · cases e
  | _ =>
    simp only [truth, Option.map_eq_some_iff] at e
    obtain ⟨l, e1, e2⟩ := e
    exact key l e1 e2.symm
theorem dt_tru (hK : X.K = C.K) (ha : PE X a (tE C W ma)) (he : ∀ whole, isTrue a X.env whole = (do let v ← whole; standAt a.pos; holding [v] (truthy v))) : PT X a (tT C W (bTru ma)) := PT.imp (pt_truth ha he) fun s H Q ⟨mu, env, h, sr, p⟩ => by
  refine tE_bind (m := ma) sr p fun v H1 mu1 d h1 sr1 e1 rd1 p1 => ?_
  split at p1
  · rename_i k z
    exact ⟨k, by rw [hK]; exact truth_tru sr1.hp rd1 z, p1 mu1 k H1 .refl sr1.hp rfl⟩
  · exact p1.elim
def eIf (t : M Bool) (a b : EM) : EM := fun env h => (t env h).bind fun x h1 => if x = true then a env h1 else b env h1
theorem de_if (hc : PT X c (tT C W ta)) (ha : PE X a (tE C W ma)) (hb : PE X b (tE C W mb)) : PE X (.IfExp c a b pos) (tE C W (eIf ta ma mb)) := PE.imp (pe_ifExp hc ha hb) fun s H Q ⟨mu, env, h, sr, p⟩ => by
  refine tT_bind (m := ta) sr p fun d H1 mu1 h1 sr1 e1 p1 => ?_
  split at p1
  · rename_i z; rw [if_pos z]; exact ⟨mu1, env, h1, sr1, p1⟩
  · rename_i z; rw [if_neg z]; exact ⟨mu1, env, h1, sr1, p1⟩
def eChain (f g : Op2) (a b c : EM) : EM := fun env h => (a env h).bind fun x h1 => (b env h1).bind fun y h2 => (f x y h2).bind fun z h3 => match z with
  | .bl true => (c env h3).bind fun w h4 => g y w h4
  | .bl false => .ok (.bl false) h3
  | _ => .no
theorem tChain_sim {f g : Op2} {r r' : R2} (sm : Sim2 C f r) (sm' : Sim2 C g r') : ∀ s H Q, tE C W (eChain f g ma mb mc) s H Q → tChain r r' (tE C W ma) (tE C W mb) (tE C W mc) s H Q := fun s H Q ⟨mu, env, h, sr, p⟩ => by
  refine tE_bind (m := ma) sr p fun v H1 mu1 d h1 sr1 e1 rd1 p1 => tE_bind (m := mb) sr1 p1 fun v2 H2 mu2 d2 h2 sr2 e2 rd2 p2 => sm H2 mu2 h2 d d2 v v2 _ (fun c d H' => W c d s H') sr2.hp (rd1.ext e2) rd2 ?_
  refine (Post.bind (Rl := RlD C) p2).mono (fun z H3 ⟨mu3, dz, h3, e3, rp3, rz, q3⟩ => ?_) fun _ _ _ z => z
  have sr3 := sr2.to e3 rp3
  split at q3
  · cases rz
    refine ⟨true, rfl, ?_⟩
    rw [if_pos rfl]
    exact tE_bind (m := mc) sr3 q3 fun v4 H4 mu4 d4 h4 sr4 e4 rd4 p4 => sm' H4 mu4 h4 d2 d4 v2 v4 Q _ sr4.hp ((rd2.ext e3).ext e4) rd4 p4
  · cases rz
    exact ⟨false, rfl, by rw [if_neg Bool.false_ne_true]; exact q3 mu3 _ H3 .refl rp3 (.bl _)⟩
  · exact q3.elim
theorem de_chain {op op' : CmpOp} {f g : Op2} {r r' : R2} (ho : OpR X (compareOp op) r) (sm : Sim2 C f r) (ho' : OpR X (compareOp op') r') (sm' : Sim2 C g r') (ha : PE X a (tE C W ma)) (hb : PE X b (tE C W mb)) (hc : PE X c (tE C W mc)) (hm : lastMarks [op, op'] [b, c] = false) :
    PE X (.Compare a [op, op'] [b, c] pos) (tE C W (eChain f g ma mb mc)) := PE.imp (pe_chain ho ho' ha hb hc hm) (tChain_sim sm sm')
theorem dt_chain {op op' : CmpOp} {f g : Op2} {r r' : R2} (ho : OpR X (compareOp op) r) (sm : Sim2 C f r) (ho' : OpR X (compareOp op') r') (sm' : Sim2 C g r') (ha : PE X a (tE C W ma)) (hb : PE X b (tE C W mb)) (hc : PE X c (tE C W mc)) (hm : lastMarks [op, op'] [b, c] = false) :
    PT X (.Compare a [op, op'] [b, c] pos) (tT C W (asB (eChain f g ma mb mc))) := PT.imp (pt_chain ho ho' ha hb hc hm) fun s H Q ⟨mu, env, h, sr, p⟩ => by
  refine tChain_sim sm sm' s H _ ⟨mu, env, h, sr, ?_⟩
  have p' : Post C H mu RlB ((eChain f g ma mb mc env h).bind fun z h1 => match z with | .bl k => .ok k h1 | _ => .no) Q fun c d H' => W c d s H' := p
  refine (Post.bind (Rl := RlD C) p').mono (fun z H3 ⟨mu3, dz, h3, e3, rp3, rz, q3⟩ => ?_) fun _ _ _ z => z
  cases dz with
  | bl k =>
    cases rz
    exact ⟨k, rfl, q3 mu3 k H3 .refl rp3 rfl⟩
  | _ => exact q3.elim
end

def aNil : M (List D) := fun _ h => .ok [] h
def aCons (a : EM) (r : M (List D)) : M (List D) := fun env h => (a env h).bind fun x h1 => (r env h1).bind fun l h2 => .ok (x :: l) h2
section
variable {C : Ctx} {W : WX} {X : Cx} {pos : Pos} {e : Expr} {es : List Expr} {m : EM} {ml : M (List D)}
theorem da_nil : PA X [] (tA C W aNil) := PA.imp pa_nil fun s H Q ⟨mu, env, h, sr, p⟩ => p mu [] H .refl sr.hp .nil
theorem da_cons (ha : PE X e (tE C W m)) (hr : PA X es (tA C W ml)) (hs : starEach (e :: es) X.env = (false, eval e X.env) :: starEach es X.env) : PA X (e :: es) (tA C W (aCons m ml)) := PA.imp (pa_cons ha hr hs) fun s H Q ⟨mu, env, h, sr, p⟩ =>
  tE_bind (m := m) sr p fun v H1 mu1 d h1 sr1 e1 rd1 p1 => tA_bind (m := ml) sr1 p1 fun vs H2 mu2 ds h2 sr2 e2 rd2 p2 => p2 mu2 (v :: vs) H2 .refl sr2.hp (.cons (rd1.ext e2) rd2)
/-- a new list: frozen, or a live cell -/
def mkL (fr : Bool) (l : List D) (h : Hpp) : R D := if fr = true then .ok (.ref h.length) (h ++ [.lst l]) else .ok (.lst l) h
theorem post_mkL {H : Hp} {mu : List Addr} {h : Hpp} {fr : Bool} {l : List D} {vs : List V} {Q : VK} {E : XK} {q : Addr} (rp : RepH C.K C.cl H mu h) (rl : RelL C.K C.cl H mu l vs) (hz : l.length ≤ LINE) (hq : H q = none) (p : Post C H mu (RlD C) (mkL fr l h) Q E) : Q (.ref q) (upd H q (.lst vs)) := by
  unfold mkL at p
  split at p
  · exact p (mu ++ [q]) _ _ (Ext.cell hq) (rp.cell hq ⟨vs, upd_same, hz, rl.ext (Ext.cell hq)⟩) (.ref (by rw [← rp.len]; simp))
  · exact p mu _ _ (Ext.nw hq) (rp.nw hq) (fz_lst rp hq hz rl)
theorem post_tup {H : Hp} {mu : List Addr} {h : Hpp} {l : List D} {vs : List V} {Q : VK} {E : XK} {q : Addr} (rp : RepH C.K C.cl H mu h) (rl : RelL C.K C.cl H mu l vs) (hz : l.length ≤ LINE) (hq : H q = none) (p : Post C H mu (RlD C) (.ok (.tup l) h) Q E) : Q (.ref q) (upd H q (.tup vs)) :=
  p mu _ _ (Ext.nw hq) (rp.nw hq) (fz_tup rp hq hz rl)
theorem RelA.len {H : Hp} {mu : List Addr} : ∀ {l : List D} {vs : List V}, RelA C H mu l vs → l.length = vs.length := fun r => Paired.length r
def eTup (ml : M (List D)) : EM := fun env h => (ml env h).bind fun l h1 => if (noRefs l && decide (l.length ≤ LINE)) = true then .ok (.tup l) h1 else .no
def eLst (fr : Bool) (ml : M (List D)) : EM := fun env h => (ml env h).bind fun l h1 => if (noRefs l && decide (l.length ≤ LINE)) = true then mkL fr l h1 else .no
theorem de_tup {k} (ha : PA X es (tA C W ml)) : PE X (.Tuple es k pos) (tE C W (eTup ml)) := PE.imp (pe_tup ha) fun s H Q ⟨mu, env, h, sr, p⟩ => by
  refine tA_bind (m := ml) sr p fun vs H2 mu2 ds h2 sr2 e2 rd2 p2 => ?_
  have hl : sizeLine = LINE := sizeLine_eq
  split at p2
  · rename_i z
    rw [Bool.and_eq_true, decide_eq_true_eq] at z
    have l1 := rd2.len
    exact ⟨by omega, fun q hq => post_tup sr2.hp (rd2.rel z.1) z.2 hq p2⟩
  · exact p2.elim
theorem de_lst (fr : Bool) (ha : PA X es (tA C W ml)) : PE X (.List es pos) (tE C W (eLst fr ml)) := PE.imp (pe_lst ha) fun s H Q ⟨mu, env, h, sr, p⟩ => by
  refine tA_bind (m := ml) sr p fun vs H2 mu2 ds h2 sr2 e2 rd2 p2 => ?_
  have hl : sizeLine = LINE := sizeLine_eq
  split at p2
  · rename_i z
    rw [Bool.and_eq_true, decide_eq_true_eq] at z
    have l1 := rd2.len
    exact ⟨by omega, fun q hq => post_mkL sr2.hp (rd2.rel z.1) z.2 hq p2⟩
  · exact p2.elim
end

theorem atI_rel {K : PySem.W.Frag} {cl : Nat → Addr → Prop} {H : Hp} {mu : List Addr} {l : List D} {vs : List V} {i : Int} {d : D} (r : RelL K cl H mu l vs) (e : atI l i = some d) : ∃ v, atI vs i = some v ∧ RelD K cl H mu d v := by
  unfold atI at e ⊢
  rw [← r.len]
  cases z : ixN l.length i with
  | none => rw [z] at e; cases e
  | some j =>
    rw [z] at e
    obtain ⟨v, a, b, _⟩ := r.get (show l[j]? = some d from e)
    exact ⟨v, a, b⟩
def oIx : Op2 := fun d e h => match e with
  | .int i => match asS d h with
    | some l => match atI l i with
      | some x => .ok x h
      | none => .no
    | none => match d with
      | .str z => if z.length ≤ LINE then (match atI z.cps.toList i with
        | some c => .ok (.str ⟨#[c]⟩) h
        | none => .no) else .no
      | _ => .no
  | _ => .no
theorem sim_ix {C : Ctx} : Sim2 C oIx (rIx C.K) := by
  intro H mu h d e x y Q E rp rd re p
  have hl : sizeLine = LINE := sizeLine_eq
  unfold oIx at p
  split at p
  · cases re
    split at p
    · rename_i l hs
      obtain ⟨a, vs, e1, e2, e3, _⟩ := asS_of rp rd hs
      split at p
      · rename_i z hz
        obtain ⟨v, w1, w2⟩ := atI_rel e3 hz
        rcases e2 with e2 | e2
        · exact .inl ⟨a, vs, _, v, e1, rfl, e2, w1, p mu v H .refl rp w2⟩
        · exact .inr (.inl ⟨a, vs, _, v, e1, rfl, e2, w1, p mu v H .refl rp w2⟩)
      · exact p.elim
    · split at p
      · split at p
        · split at p
          · rename_i c hc
            cases rd
            exact .inr (.inr ⟨_, _, c, rfl, rfl, by omega, hc, p mu _ H .refl rp (.str _)⟩)
          · exact p.elim
        · exact p.elim
      · exact p.elim
  · exact p.elim
section
variable {C : Ctx} {W : WX} {X : Cx} {pos : Pos} {a b : Expr} {ma mb : EM}
theorem de_ix (hK : X.K = C.K) (ha : PE X a (tE C W ma)) (hb : PE X b (tE C W mb)) (hs : PlainIx b) : PE X (.Subscript a b pos) (tE C W (eOp oIx ma mb)) :=
  PE.imp (pe_ix (r := rIx C.K) (by rw [← hK]; exact ix_seq) ha hb hs) (tOp_sim sim_ix)
end
end Nb
end
section
set_option Elab.async false
set_option linter.all false
set_option maxRecDepth 100000
set_option maxHeartbeats 1000000
namespace Nb
open PySem PySem.Spec PyProof.Rows L2

def Sim1 (C : Ctx) (f : FM) (r : List V → Hp → VK → Prop) : Prop := ∀ (H : Hp) (mu : List Addr) (h : Hpp) (ds : List D) (vs : List V) (Q : VK) (E : XK), RepH C.K C.cl H mu h → RelA C H mu ds vs → Post C H mu (RlD C) (f ds h) Q E → r vs H Q
def eCall (f : FM) (ml : M (List D)) : EM := fun env h => (ml env h).bind fun l h1 => f l h1
section
variable {C : Ctx} {W : WX} {X : Cx} {pos p : Pos} {x : Str} {e : Expr} {es : List Expr} {ml : M (List D)} {f : FM} {r : List V → Hp → VK → Prop} {id T : String}
theorem tCB_sim (sm : Sim1 C f r) : ∀ s H Q, tE C W (eCall f ml) s H Q → tCB r (tA C W ml) s H Q := fun s H Q ⟨mu, env, h, sr, p⟩ =>
  tA_bind (m := ml) sr p fun vs H1 mu1 ds h1 sr1 e1 rd1 p1 => sm H1 mu1 h1 ds vs Q _ sr1.hp rd1 p1
theorem de_callB (hc : CallR X (.builtin id) r) (sm : Sim1 C f r) (hv : bootBuiltins x = some (.builtin id)) (hn : x ≠ "__name__") (hdb : (x == ("__debug__" : Str)) = false) (hg : Gl X x) (hm : X.mg x = none) (ha : PA X (e :: es) (tA C W ml))
    (he : starEach (e :: es) X.env = (false, eval e X.env) :: starEach es X.env) (hpl : (backTo pos (starEach es X.env)).any (·.1) = false) : PE X (.Call (.Name x p) (e :: es) [] pos) (tE C W (eCall f ml)) :=
  PE.imp (pe_callB hc hg hm hv ha hn hdb he hpl) (tCB_sim sm)
theorem de_callTy (hc : CallR X (.type T) r) (sm : Sim1 C f r) (hv : bootBuiltins x = some (.type T)) (hn : x ≠ "__name__") (hdb : (x == ("__debug__" : Str)) = false) (hg : Gl X x) (hm : X.mg x = none) (ha : PA X (e :: es) (tA C W ml))
    (he : starEach (e :: es) X.env = (false, eval e X.env) :: starEach es X.env) (hpl : (backTo pos (starEach es X.env)).any (·.1) = false) : PE X (.Call (.Name x p) (e :: es) [] pos) (tE C W (eCall f ml)) :=
  PE.imp (pe_callTy hc hg hm hv ha hn hdb he hpl) (tCB_sim sm)
end

def intsOf : List D → Option (List Int)
  | [] => some []
  | .int i :: l => (intsOf l).map (i :: ·)
  | _ :: _ => none
theorem intsOf_eq : ∀ {l : List D} {ns : List Int}, intsOf l = some ns → l = ns.map D.int
  | [], ns, e => by cases e; rfl
  | d :: l, ns, e => by
    cases d with
    | int i =>
      simp only [intsOf, Option.map_eq_some_iff] at e
      obtain ⟨m, e1, e2⟩ := e
      rw [← e2, intsOf_eq e1]; rfl
    | _ => cases e
theorem intsOf_map : ∀ ns : List Int, intsOf (ns.map D.int) = some ns
  | [] => rfl
  | n :: ns => by simp [intsOf, intsOf_map ns]
def blsOf : List D → Option (List Bool)
  | [] => some []
  | .bl i :: l => (blsOf l).map (i :: ·)
  | _ :: _ => none
theorem blsOf_eq : ∀ {l : List D} {ns : List Bool}, blsOf l = some ns → l = ns.map D.bl
  | [], ns, e => by cases e; rfl
  | d :: l, ns, e => by
    cases d with
    | bl i =>
      simp only [blsOf, Option.map_eq_some_iff] at e
      obtain ⟨m, e1, e2⟩ := e
      rw [← e2, blsOf_eq e1]; rfl
    | _ => cases e
theorem blsOf_map : ∀ ns : List Bool, blsOf (ns.map D.bl) = some ns
  | [] => rfl
  | n :: ns => by simp [blsOf, blsOf_map ns]
theorem ints_rel {K : PySem.W.Frag} {cl : Nat → Addr → Prop} {H : Hp} {mu : List Addr} {h : Hpp} {d : D} {v : V} {l : List D} {ns : List Int} (rp : RepH K cl H mu h) (rd : RelD K cl H mu d v) (e : asL d h = some l) (e' : intsOf l = some ns) : ∃ a, v = .ref a ∧ SqL K H a (ns.map V.int) ∧ ns.length ≤ LINE := by
  obtain ⟨a, vs, e1, e2, e3, e4⟩ := asL_of rp rd e
  rw [intsOf_eq e'] at e3 e4
  rw [e3.ints] at e2
  exact ⟨a, e1, e2, by simpa using e4⟩
theorem bls_rel {K : PySem.W.Frag} {cl : Nat → Addr → Prop} {H : Hp} {mu : List Addr} {h : Hpp} {d : D} {v : V} {l : List D} {ns : List Bool} (rp : RepH K cl H mu h) (rd : RelD K cl H mu d v) (e : asL d h = some l) (e' : blsOf l = some ns) : ∃ a, v = .ref a ∧ SqL K H a (ns.map V.bl) := by
  obtain ⟨a, vs, e1, e2, e3, e4⟩ := asL_of rp rd e
  rw [blsOf_eq e'] at e3
  rw [e3.bls] at e2
  exact ⟨a, e1, e2⟩

def fLen : FM := fun ds h => match ds with
  | [d] => match asS d h with
    | some l => .ok (.int l.length) h
    | none => match d with
      | .str x => if x.length ≤ LINE then .ok (.int x.length) h else .no
      | _ => .no
  | _ => .no
theorem sim_len {C : Ctx} : Sim1 C fLen (fun xs H Q => ∃ x n, xs = [x] ∧ LenV C.K x H n ∧ Q (.int n) H) := by
  intro H mu h ds vs Q E rp rd p
  have hl : sizeLine = LINE := sizeLine_eq
  unfold fLen at p
  split at p
  · cases rd with
    | cons rd rt =>
    cases rt
    split at p
    · rename_i l hs
      obtain ⟨a, ws, e1, e2, e3, _⟩ := asS_of rp rd hs
      refine ⟨_, l.length, rfl, ?_, p mu _ H .refl rp (.int _)⟩
      subst e1
      rw [e3.len]
      rcases e2 with e2 | e2
      · exact .inl ⟨ws, e2, rfl⟩
      · exact .inr ⟨ws, e2, rfl⟩
    · split at p
      · split at p
        · cases rd
          exact ⟨_, _, rfl, ⟨by omega, rfl⟩, p mu _ H .refl rp (.int _)⟩
        · exact p.elim
      · exact p.elim
  · exact p.elim
def fSum : FM := fun ds h => match ds with
  | [d] => match (asL d h).bind intsOf with
    | some ns => .ok (.int ns.sum) h
    | none => .no
  | _ => .no
theorem sim_sum {C : Ctx} : Sim1 C fSum (rSum C.K) := by
  intro H mu h ds vs Q E rp rd p
  unfold fSum at p
  split at p
  · cases rd with
    | cons rd rt =>
    cases rt
    split at p
    · rename_i ns e
      rw [Option.bind_eq_some_iff] at e
      obtain ⟨l, e1, e2⟩ := e
      obtain ⟨a, q1, q2, _⟩ := ints_rel rp rd e1 e2
      subst q1
      exact ⟨a, ns, rfl, q2, p mu _ H .refl rp (.int _)⟩
    · exact p.elim
  · exact p.elim
def fAllAny (g : List Bool → Bool) : FM := fun ds h => match ds with
  | [d] => match (asL d h).bind blsOf with
    | some ns => .ok (.bl (g ns)) h
    | none => .no
  | _ => .no
abbrev fAll : FM := fAllAny fun l => l.all id
abbrev fAny : FM := fAllAny fun l => l.any id
theorem sim_all {C : Ctx} : Sim1 C fAll (rAll C.K) := by
  intro H mu h ds vs Q E rp rd p
  simp only [fAll, fAllAny] at p
  split at p
  · cases rd with
    | cons rd rt =>
    cases rt
    split at p
    · rename_i ns e
      rw [Option.bind_eq_some_iff] at e
      obtain ⟨l, e1, e2⟩ := e
      obtain ⟨a, q1, q2⟩ := bls_rel rp rd e1 e2
      subst q1
      exact ⟨a, ns, rfl, q2, p mu _ H .refl rp (.bl _)⟩
    · exact p.elim
  · exact p.elim
theorem sim_any {C : Ctx} : Sim1 C fAny (rAny C.K) := by
  intro H mu h ds vs Q E rp rd p
  simp only [fAny, fAllAny] at p
  split at p
  · cases rd with
    | cons rd rt =>
    cases rt
    split at p
    · rename_i ns e
      rw [Option.bind_eq_some_iff] at e
      obtain ⟨l, e1, e2⟩ := e
      obtain ⟨a, q1, q2⟩ := bls_rel rp rd e1 e2
      subst q1
      exact ⟨a, ns, rfl, q2, p mu _ H .refl rp (.bl _)⟩
    · exact p.elim
  · exact p.elim
def fMin1 : FM := fun ds h => match ds with
  | [d] => match ((asL d h).bind intsOf).bind fun ns => ns.min? with
    | some m => .ok (.int m) h
    | none => .no
  | _ => .no
def fMax1 : FM := fun ds h => match ds with
  | [d] => match ((asL d h).bind intsOf).bind fun ns => ns.max? with
    | some m => .ok (.int m) h
    | none => .no
  | _ => .no
theorem sim_min1 {C : Ctx} : Sim1 C fMin1 (rMin C.K) := by
  intro H mu h ds vs Q E rp rd p
  unfold fMin1 at p
  split at p
  · cases rd with
    | cons rd rt =>
    cases rt
    split at p
    · rename_i m e
      rw [Option.bind_eq_some_iff] at e
      obtain ⟨ns, e, e3⟩ := e
      rw [Option.bind_eq_some_iff] at e
      obtain ⟨l, e1, e2⟩ := e
      obtain ⟨a, q1, q2, _⟩ := ints_rel rp rd e1 e2
      subst q1
      have hm := List.min?_eq_some_iff.mp e3
      refine ⟨a, ns, rfl, q2, List.length_pos_of_mem hm.1, fun m' h1 h2 => ?_⟩
      have z : m' = m := Int.le_antisymm (h2 m hm.1) (hm.2 m' h1)
      subst z
      exact p mu _ H .refl rp (.int _)
    · exact p.elim
  · exact p.elim
theorem sim_max1 {C : Ctx} : Sim1 C fMax1 (rMax C.K) := by
  intro H mu h ds vs Q E rp rd p
  unfold fMax1 at p
  split at p
  · cases rd with
    | cons rd rt =>
    cases rt
    split at p
    · rename_i m e
      rw [Option.bind_eq_some_iff] at e
      obtain ⟨ns, e, e3⟩ := e
      rw [Option.bind_eq_some_iff] at e
      obtain ⟨l, e1, e2⟩ := e
      obtain ⟨a, q1, q2, _⟩ := ints_rel rp rd e1 e2
      subst q1
      have hm := List.max?_eq_some_iff.mp e3
      refine ⟨a, ns, rfl, q2, List.length_pos_of_mem hm.1, fun m' h1 h2 => ?_⟩
      have z : m' = m := Int.le_antisymm (hm.2 m' h1) (h2 m hm.1)
      subst z
      exact p mu _ H .refl rp (.int _)
    · exact p.elim
  · exact p.elim
def fII (g : Int → Int → Int) : FM := fun ds h => match ds with
  | [.int i, .int j] => .ok (.int (g i j)) h
  | _ => .no
theorem sim_II {C : Ctx} {g : Int → Int → Int} : Sim1 C (fII g) (fun xs H Q => ∃ i j, xs = [.int i, .int j] ∧ Q (.int (g i j)) H) := by
  intro H mu h ds vs Q E rp rd p
  unfold fII at p
  split at p
  · cases rd with
    | cons rd rt =>
    cases rt with
    | cons re rt =>
    cases rt; cases rd; cases re
    exact ⟨_, _, rfl, p mu _ H .refl rp (.int _)⟩
  · exact p.elim
abbrev fMin2 : FM := fII fun i j => if j < i then j else i
abbrev fMax2 : FM := fII fun i j => if j > i then j else i
def fInt : FM := fun ds h => match ds with
  | [.int i] => .ok (.int i) h
  | [.bl b] => .ok (.int (if b then 1 else 0)) h
  | _ => .no
theorem sim_int {C : Ctx} : Sim1 C fInt (fun xs H Q => (∃ i, xs = [.int i] ∧ Q (.int i) H) ∨ ∃ k, xs = [.bl k] ∧ Q (.int (if k then 1 else 0)) H) := by
  intro H mu h ds vs Q E rp rd p
  unfold fInt at p
  split at p
  · cases rd with
    | cons rd rt =>
    cases rt; cases rd
    exact .inl ⟨_, rfl, p mu _ H .refl rp (.int _)⟩
  · cases rd with
    | cons rd rt =>
    cases rt; cases rd
    exact .inr ⟨_, rfl, p mu _ H .refl rp (.int _)⟩
  · exact p.elim
def fList (fr : Bool) : FM := fun ds h => match ds with
  | [d] => match asS d h with
    | some l => mkL fr l h
    | none => .no
  | _ => .no
theorem sim_list {C : Ctx} {fr : Bool} : Sim1 C (fList fr) (fun xs H Q => ∃ p ys, xs = [.ref p] ∧ (SqL C.K H p ys ∨ SqT C.K H p ys) ∧ ∀ l, H l = none → Q (.ref l) (upd H l (.lst ys))) := by
  intro H mu h ds vs Q E rp rd p
  unfold fList at p
  split at p
  · cases rd with
    | cons rd rt =>
    cases rt
    split at p
    · rename_i l hs
      obtain ⟨a, ws, e1, e2, e3, e4⟩ := asS_of rp rd hs
      subst e1
      exact ⟨a, ws, rfl, e2, fun q hq => post_mkL rp e3 e4 hq p⟩
    · exact p.elim
  · exact p.elim
def fTuple : FM := fun ds h => match ds with
  | [d] => match asS d h with
    | some l => .ok (.tup l) h
    | none => .no
  | _ => .no
theorem sim_tuple {C : Ctx} : Sim1 C fTuple (fun xs H Q => ∃ p ys, xs = [.ref p] ∧ ((SqL C.K H p ys ∧ ∀ l, H l = none → Q (.ref l) (upd H l (.tup ys))) ∨ (SqT C.K H p ys ∧ Q (.ref p) H))) := by
  intro H mu h ds vs Q E rp rd p
  unfold fTuple at p
  split at p
  · cases rd with
    | cons rd rt =>
    cases rt
    split at p
    · rename_i l hs
      cases rd with
      | @tup _ a ws e2 e4 e3 =>
        have z : l = _ := (Option.some.inj hs).symm
        subst z
        exact ⟨a, ws, rfl, .inr ⟨e2.sq, p mu _ H .refl rp (.tup e2 e4 e3)⟩⟩
      | lst h1 h2 h4 h3 =>
        obtain ⟨a, ws, e1, e2, e3, e4⟩ := asL_of (d := .lst _) rp (.lst h1 h2 h4 h3) hs
        exact ⟨a, ws, by rw [e1], .inl ⟨e2, fun q hq => post_tup rp e3 e4 hq p⟩⟩
      | frl h1 h4 h3 =>
        obtain ⟨a, ws, e1, e2, e3, e4⟩ := asL_of (d := .frl _) rp (.frl h1 h4 h3) hs
        exact ⟨a, ws, by rw [e1], .inl ⟨e2, fun q hq => post_tup rp e3 e4 hq p⟩⟩
      | ref h1 =>
        obtain ⟨a, ws, e1, e2, e3, e4⟩ := asL_of (d := .ref _) rp (.ref h1) hs
        exact ⟨a, ws, by rw [e1], .inl ⟨e2, fun q hq => post_tup rp e3 e4 hq p⟩⟩
      | _ => cases hs
    · exact p.elim
  · exact p.elim
def sortI (ns : List Int) : List Int := ns.mergeSort fun a b => decide (a ≤ b)
theorem sortI_perm (ns : List Int) : (sortI ns).Perm ns := List.mergeSort_perm ..
theorem sortI_pair (ns : List Int) : (sortI ns).Pairwise (· ≤ ·) := by
  have h := List.pairwise_mergeSort (le := fun a b : Int => decide (a ≤ b)) (fun a b c h1 h2 => by simp at *; omega) (fun a b => by simp; omega) ns
  exact h.imp fun h => by simpa using h
theorem sorted_uniq : ∀ {l m : List Int}, l.Perm m → l.Pairwise (· ≤ ·) → m.Pairwise (· ≤ ·) → l = m := fun h1 h2 h3 => h1.eq_of_pairwise (fun a b _ _ h h' => Int.le_antisymm h h') h2 h3
def fSortedI (fr : Bool) : FM := fun ds h => match ds with
  | [d] => match (asL d h).bind intsOf with
    | some ns => mkL fr ((sortI ns).map D.int) h
    | none => .no
  | _ => .no
theorem sim_sortedI {C : Ctx} {fr : Bool} : Sim1 C (fSortedI fr) (rSortedI C.K) := by
  intro H mu h ds vs Q E rp rd p
  unfold fSortedI at p
  split at p
  · cases rd with
    | cons rd rt =>
    cases rt
    split at p
    · rename_i ns e
      rw [Option.bind_eq_some_iff] at e
      obtain ⟨l, e1, e2⟩ := e
      obtain ⟨a, q1, q2, q3⟩ := ints_rel rp rd e1 e2
      subst q1
      refine ⟨a, ns, rfl, q2, fun ns' q h1 h2 hq => ?_⟩
      have z : ns' = sortI ns := sorted_uniq (h1.trans (sortI_perm ns).symm) h2 (sortI_pair ns)
      subst z
      exact post_mkL rp (RelL.of_ints _) (by rw [List.length_map, (sortI_perm ns).length_eq]; exact q3) hq p
    · exact p.elim
  · exact p.elim
end Nb
end
section
set_option Elab.async false
set_option linter.all false
set_option maxRecDepth 100000
set_option maxHeartbeats 1000000
namespace PySem
open Sem (wp)
open AutoSeq1 (wpAny_loadPart')
theorem meets_enum_newT (l : Addr) (items : Array Value) (n : Nat) (dct : Option Addr) (sl : Array (Option Value)) :
    Meets (Builtin.«enumerate.__new__» ⟨[.type "enumerate", .ref l], []⟩) (fun _ R s => s.heap.get? l = some { cls := .type "tuple", dict := dct, data := .seq items n, slots := sl } ∧
      R (.ok (.ret (.ref (s.heap.push { cls := .type "tuple_iterator", data := .fields #[.ref l, .int 0 0] }).objs.size)))
        { s with heap := (s.heap.push { cls := .type "tuple_iterator", data := .fields #[.ref l, .int 0 0] }).push { cls := .type "enumerate", data := .fields #[.none, .bool false, .ref s.heap.objs.size, rawInt 0, .none, .none] } }) :=
  .of_wp fun prog w A R s h => by
    obtain ⟨hp, g, d, tk, os⟩ := s; obtain ⟨hl, h⟩ := h
    have hsub := sub_enumerate
    have hL : Heap.IsTuple (Shared.heap ⟨hp, g, d, tk, os⟩) l items := ⟨_, hl, rfl, n, rfl⟩
    wp_walk using wpAny_loadPart' hl
    refine wpAny_stack_any fun st => wpAny_pure ?_
    split
    · rename_i c _ _ _ _ _
      cases (c == Value.type "enumerate")
      · wp_walk using wpAny_loadPart' hl, wpAny_pyIter_tuple hL
        exact ⟨_, rfl, h⟩
      · wp_walk using wpAny_loadPart' hl, wpAny_pyIter_tuple hL
        exact ⟨_, rfl, h⟩
    · wp_walk using wpAny_loadPart' hl, wpAny_pyIter_tuple hL
      exact ⟨_, rfl, h⟩
section
variable {prog : Program} {w : World} {A : Around} {E : Value → Shared → Prop} {s : Shared}
theorem call_enumerate_tup {l : Addr} {items : Array Value} {Q : Value → Shared → Prop} (hL : s.heap.IsTuple l items)
    (h : ∀ h', IsEnum h' (s.heap.objs.size + 1) s.heap.objs.size 0 .none → h'.IsTupleIter s.heap.objs.size l 0 → h'.objs.size = s.heap.objs.size + 2 →
      (∀ b o, s.heap.get? b = some o → h'.get? b = some o) → Q (.ref (s.heap.objs.size + 1)) { s with heap := h' }) :
    wpAny (model prog w) A (call (.type "enumerate") [.ref l]) Q E s := by
  obtain ⟨⟨c, dct, dt, sl⟩, hl, hc, n, hd⟩ := hL
  replace hc : c = .type "tuple" := hc
  replace hd : dt = .seq items n := hd
  subst hc hd
  refine callType_new F.called_enumerate (by decide) (F.typeCall_enumerate_1 _) (F.newCall_enumerate_1 _) (fun obj => F.args_object_init_2 obj _) F.entry_enumerate_new
    (meets_enum_newT l items n dct sl) ⟨hl, ?_⟩
  have hz : (s.heap.push { cls := .type "tuple_iterator", data := .fields #[.ref l, .int 0 0] }).objs.size = s.heap.objs.size + 1 := Heap.size_push ..
  show _ ∧ _
  rw [hz]
  have he : IsEnum ((s.heap.push { cls := .type "tuple_iterator", data := .fields #[.ref l, .int 0 0] }).push
      { cls := .type "enumerate", data := .fields #[.none, .bool false, .ref s.heap.objs.size, rawInt 0, .none, .none] }) (s.heap.objs.size + 1) s.heap.objs.size 0 .none := by
    have := Heap.get?_push_size (s.heap.push { cls := .type "tuple_iterator", data := .fields #[.ref l, .int 0 0] })
      (o := { cls := .type "enumerate", data := .fields #[.none, .bool false, .ref s.heap.objs.size, rawInt 0, .none, .none] }) rfl
    rw [hz] at this; exact this
  refine ⟨⟨_, he, rfl⟩, h _ he ⟨_, Heap.get?_push_of_some _ (Heap.get?_push_size _ rfl), rfl, rfl⟩ (by rw [Heap.size_push, hz]) fun b o x => Heap.get?_push_of_some _ (Heap.get?_push_of_some _ x)⟩
end
end PySem
namespace L2
open PySem PySem.Spec PyProof.Rows
def IteT (K : PySem.W.Frag) (a : Addr) : It :=
  ⟨fun i H => ∃ (xs : List V) (x : V), SqT K H a xs ∧ xs[i]? = some x, fun i H v H' => ∃ T x, v = .ref T ∧ H T = none ∧ H' = upd H T (.tup [.int (i : Nat), x]) ∧ ∀ xs, SqT K H a xs → xs[i]? = some x, fun i H => ∃ xs : List V, SqT K H a xs ∧ xs.length ≤ i⟩
theorem turn_enumT {P : Program} {w : World} {K : PySem.W.Frag} {elts : List Expr} {kk : Nat} {tpos : Pos} (a e it : Addr) (hai : a ≠ it) (hea : e ≠ a) :
    Turn P w K (.Tuple elts kk tpos) (IteT K a) [e, it] e (fun i h => (∃ old, IsEnum h e it ((i : Nat) : Int) old) ∧ h.IsTupleIter it a i ∧ e ≠ it) where
  mem := by simp
  obj := fun i h st b hb => by
    obtain ⟨⟨old, he⟩, ⟨o, ho, hc, hd⟩, _⟩ := st
    have e' : b = e ∨ b = it := by simpa using hb
    rcases e' with z | z
    · rw [z]; exact ⟨_, he, fun v q => nomatch q⟩
    · rw [z]; exact ⟨o, ho, fun v q => by rw [hd] at q; cases q⟩
  keep := fun i h h' st k => let ⟨⟨old, he⟩, hi, hne⟩ := st; ⟨⟨old, k e (by simp) _ he⟩, hi.at fun o q => k it (by simp) o q, hne⟩
  item := by
    intro X hP hw hK hc i pins s σ H E I hf st hg
    subst hP hw hK
    obtain ⟨⟨old, he⟩, hit, hne⟩ := st
    obtain ⟨xs, x, hq, hx⟩ := hg
    obtain ⟨its, rv, p, hz⟩ := I.tuple hq
    obtain ⟨u, hu, ru⟩ := rv.get hx
    have hel : e < s.heap.objs.size := Heap.lt_size he
    have hil : it < s.heap.objs.size := by obtain ⟨_, q, _⟩ := hit; exact Heap.lt_size q
    have ht : s.heap.IsTuple a its.toArray := p
    have D := Draws.tuple (prog := X.prog) (w := X.w) (A := X.A.in1) (show X.A.in1.handled = none from I.ok.hd hc) it a hai its.toArray
    have hlt : i < its.toArray.size := by
      rw [List.size_toArray]
      exact (List.getElem?_eq_some_iff.mp hu).1
    refine wpAny_pyNext_enum_itemD D he ⟨hit, ht⟩ hlt hne (by simp [hne, hea]) fun x' h' tk hx' ho hit' hT hsz hk => ?_
    have ex : x' = u := by
      have z : its.toArray[i]? = some u := by simpa using hu
      rw [z] at hx'
      exact (Option.some.inj hx').symm
    subst ex
    refine ⟨_, rfl, wpAny_letOwnedTupleGo_enum (s := { s with heap := h', toks := tk + 1 }) ho fun h'' he' sb => ?_⟩
    have hT2 : h''.get? s.heap.objs.size = some { cls := .type "tuple", data := .seq #[.int i tk, x'] } := (sb.2 _ (Nat.ne_of_gt hel)).trans hT
    have new : ObjOk X.prog X.w (upd H s.heap.objs.size (.tup [.int (i : Nat), x])) h'' s.heap.objs.size (.tup [.int (i : Nat), x]) :=
      ⟨by show 2 ≤ sizeLine; decide, [.int i tk, x'], .cons ⟨_, rfl⟩ (.cons ru .nil), ⟨_, hT2, rfl, _, rfl⟩⟩
    have I1 : Inv X pins σ (upd H s.heap.objs.size (.tup [.int (i : Nat), x])) { s with heap := h'', toks := tk + 1 } :=
      I.turnedNew (ch := [e, it]) (fun b ob hb q => (sb.2 b (fun z => hb (by simp [z]))).trans (hk b ob (fun z => hb (by simp [z])) (fun z => hb (by simp [z])) q)) hf (Nat.le_refl _) new
    refine ⟨.ref s.heap.objs.size, _, I1, rfl, ⟨_, x, rfl, I.hok.fresh (Nat.le_refl _), rfl, fun ys hy => by rw [I.tuple_inj hy hq]; exact hx⟩, ⟨⟨x', ?_⟩, hit'.1.at fun o q => (sb.2 it (Ne.symm hne)).trans q, hne⟩, fun b hb => ?_⟩
    · have e1 : ((i + 1 : Nat) : Int) = (i : Int) + 1 := by omega
      rw [e1]; exact he'
    · have hb' : b < s.heap.objs.size := by
        have e' : b = e ∨ b = it := by simpa using hb
        rcases e' with z | z
        · rw [z]; exact hel
        · rw [z]; exact hil
      rw [upd_ne (Nat.ne_of_lt hb')]
      exact (hf b hb).1
  done := by
    intro X hP hw hK hc i pins s σ H E I hf st hg
    subst hP hw hK
    obtain ⟨⟨old, he⟩, hit, hne⟩ := st
    obtain ⟨xs, hq, hx⟩ := hg
    obtain ⟨its, rv, p, hz⟩ := I.tuple hq
    have ht : s.heap.IsTuple a its.toArray := p
    have hl := rv.length
    have hT : s.TypeIs (.ref e) "enumerate" := ⟨_, he, rfl⟩
    have hxn : its.toArray[i]? = none := by
      rw [Array.getElem?_eq_none]
      rw [List.size_toArray]; omega
    unfold pyNext
    refine wpAny_bind (wpAny_attempt (wpAny_callSpecial?_slot (name := Str.ofString "__next__") hT F.slot_enumerate_next
      (wpAny_call_entry F.slot_enumerate_next hT F.entry_enumerate_next ?_ (F.args_enumerate_next_1 _))))
    show wpAny _ _ (field (.ref e) 2 >>= _) _ _ _
    refine wpAny_bind (wpAny_field he rfl (x := .ref it) rfl ?_)
    refine wpAny_bind (wpAny_nextOf_tuple_end (show X.A.in1.handled = none from I.ok.hd hc) hit ht hxn fun h' x he' hx' => ?_)
    obtain ⟨o, ho, hcl⟩ := hx'
    refine wpAny_bind (wpAny_isInstance (T := "StopIteration") (b := true) ⟨o, ho, hcl⟩ isSubtype_stop ?_)
    obtain ⟨f0, f1, f2, f3, f4, f5⟩ := hf it (by simp)
    exact wpAny_pure ⟨rfl, I.turned (t' := s.toks) (fun b o hb q => he' b o hb q) f0 f1 f3 f4 f5⟩
  self := fun A i s Q E st h => let ⟨⟨_, he⟩, _⟩ := st; wpAny_pyIter_enum he h
def iEnumA (K : PySem.W.Frag) (ta : TA) : TI := fun σ H R => ta σ H fun vs H1 => ∃ a xs, vs = [.ref a] ∧ ((SqL K H1 a xs ∧ R (Ite K a) H1) ∨ (SqT K H1 a xs ∧ R (IteT K a) H1))
theorem pi_enumA {X : Cx} {e : Expr} {ta : TA} {p pos tpos : Pos} {elts : List Expr} {kk : Nat} (hg : Gl X "enumerate") (hm : X.mg "enumerate" = none) (ha : PA X [e] ta) (hs : starEach [e] X.env = [(false, eval e X.env)]) :
    PI X (.Tuple elts kk tpos) (.Call (.Name "enumerate" p) [e] [] pos) (iEnumA X.K ta) := by
  refine ⟨fun pins s σ H R I h => ?_⟩
  refine Call_ (ld_blt I hg hm boot_enumerate (PyProof.Rows.callWith_type1 (thn (ha.run pos pins s σ H _ I h) fun us s1 ⟨vs, H1, I1, r1, q1⟩ => ?_) hs rfl))
  obtain ⟨a, xs, ex, q⟩ := q1
  subst ex
  cases r1 with
  | cons r rr =>
    cases rr
    cases r
    have fresh2 : ∀ b ∈ [s1.heap.objs.size + 1, s1.heap.objs.size], FpOk X pins H1 b := fun b hb => by
      have e' : b = s1.heap.objs.size + 1 ∨ b = s1.heap.objs.size := by simpa using hb
      have hle : s1.heap.objs.size ≤ b := by
        rcases e' with z | z
        · rw [z]; exact Nat.le_add_right _ _
        · rw [z]; exact Nat.le_refl _
      exact I1.fpOk hle (I1.hok.fresh hle)
    rcases q with ⟨hq, q⟩ | ⟨hq, q⟩
    · obtain ⟨its, rv, p', hz⟩ := I1.list hq
      refine call_enumerate_list p'.isList fun h' he hit hsz hk => wpAny_pyIter_enum he ?_
      have I2 : Inv X pins σ H1 { s1 with heap := h' } := I1.kept (t' := s1.toks) hk
      exact ⟨s1.heap.objs.size + 1, [s1.heap.objs.size + 1, s1.heap.objs.size], _, _, H1, rfl, I2, turn_enum a (s1.heap.objs.size + 1) s1.heap.objs.size, ⟨⟨.none, he⟩, hit, Nat.succ_ne_self _⟩, fresh2, q⟩
    · obtain ⟨its, rv, p', hz⟩ := I1.tuple hq
      obtain ⟨o1, ho1, _⟩ := id p'
      have hlt := Heap.lt_size ho1
      refine call_enumerate_tup (show s1.heap.IsTuple a its.toArray from p') fun h' he hit hsz hk => wpAny_pyIter_enum he ?_
      have I2 : Inv X pins σ H1 { s1 with heap := h' } := I1.kept (t' := s1.toks) hk
      exact ⟨s1.heap.objs.size + 1, [s1.heap.objs.size + 1, s1.heap.objs.size], _, _, H1, rfl, I2, turn_enumT a (s1.heap.objs.size + 1) s1.heap.objs.size (Nat.ne_of_lt hlt) (Nat.ne_of_gt (Nat.lt_succ_of_lt hlt)), ⟨⟨.none, he⟩, hit, Nat.succ_ne_self _⟩, fresh2, q⟩
theorem walk_enumT {K : PySem.W.Frag} {a : Addr} {xs : List V} : Walk (IteT K a) xs.length (fun H => SqT K H a xs) (YPair (fun i => some (.int (i : Nat))) (fun i => xs[i]?)) := by
  refine ⟨fun i _ hi q => ⟨xs, xs[i], q, by simp [hi]⟩, fun _ q => ⟨xs, q, Nat.le_refl _⟩, fun i H v H' _ q y => ?_⟩
  obtain ⟨T, x, h1, h2, h3, h4⟩ := y
  exact ⟨T, .int (i : Nat), x, h1, h2, h3, rfl, h4 xs q⟩
/-- a list or a tuple -/
def iSeq (K : PySem.W.Frag) (tl : TE) : TI := fun σ H R => tl σ H fun x H1 => ∃ a, x = .ref a ∧ (((∃ xs, SqL K H1 a xs) ∧ R (Itl K a) H1) ∨ ((∃ xs, SqT K H1 a xs) ∧ R (Itt K a) H1) ∨ ∃ lo hi, H1 a = some (.rng lo hi) ∧ -(2 ^ 62) ≤ lo ∧ lo < 2 ^ 62 ∧ -(2 ^ 62) ≤ hi ∧ hi < 2 ^ 62 ∧ R (Itr lo (hi - lo).toNat) H1)
theorem pi_seq {X : Cx} {tg l : Expr} {tl : TE} (hl : PE X l tl) : PI X tg l (iSeq X.K tl) := by
  refine ⟨fun pins s σ H R I h => ?_⟩
  refine thn (hl.run pins s σ H _ I h) fun v s1 ⟨x, H1, I1, r1, q1⟩ => ?_
  obtain ⟨a, e, q⟩ := q1
  subst e
  cases r1
  have fresh1 : ∀ b ∈ [s1.heap.objs.size], FpOk X pins H1 b := fun b hb => by
    have e : b = s1.heap.objs.size := by simpa using hb
    subst e
    exact I1.fpOk (Nat.le_refl _) (I1.hok.fresh (Nat.le_refl _))
  rcases q with ⟨⟨xs, hq⟩, q⟩ | ⟨⟨xs, hq⟩, q⟩ | ⟨lo, hi, hq, h1, h2, h3, h4, q⟩
  · obtain ⟨its, rv, p, hz⟩ := I1.list hq
    refine wpAny_pyIter_list p.isList ?_
    exact ⟨s1.heap.objs.size, [s1.heap.objs.size], _, _, H1, rfl, I1.kept (t' := s1.toks) fun b o e => Heap.get?_push_of_some _ e, turn_list a _, ⟨_, Heap.get?_push_size _ rfl, rfl, rfl⟩, fresh1, q⟩
  · obtain ⟨its, rv, p, hz⟩ := I1.tuple hq
    refine wpAny_pyIter_tuple (show s1.heap.IsTuple a its.toArray from p) ?_
    exact ⟨s1.heap.objs.size, [s1.heap.objs.size], _, _, H1, rfl, I1.kept (t' := s1.toks) fun b o e => Heap.get?_push_of_some _ e, turn_tuple a _, ⟨_, Heap.get?_push_size _ rfl, rfl, rfl⟩, fresh1, q⟩
  · obtain ⟨t, u, v, ho⟩ := I1.hok a _ hq
    refine wpAny_pyIter_range (show IsRange s1.heap a lo hi 1 t u v from ho) (small_one h1 h2 h3 h4) ?_
    refine ⟨s1.heap.objs.size, [s1.heap.objs.size], _, _, H1, rfl, I1.kept (t' := s1.toks) fun b o e => Heap.get?_push_of_some _ e, turn_range _ lo (hi - lo).toNat, ?_, fresh1, q⟩
    have e1 : lo + ((0 : Nat) : Int) * 1 = lo := by simp
    have e2 : (((hi - lo).toNat : Nat) : Int) - ((0 : Nat) : Int) = Builtin.Range.rangeSize lo hi 1 := by rw [rangeSize_one]; split <;> omega
    show IsRangeIter _ _ (lo + ((0 : Nat) : Int) * 1) ((((hi - lo).toNat : Nat) : Int) - ((0 : Nat) : Int)) 1
    rw [e1, e2]
    exact Heap.get?_push_size _ rfl
end L2
end
section
set_option Elab.async false
set_option linter.all false
set_option maxRecDepth 100000
set_option maxHeartbeats 1000000
namespace Nb
open PySem PySem.Spec PyProof.Rows L2

structure ItS where
  items : List D
  src : List (Nat × List D)
def srcOk (src : List (Nat × List D)) (h : Hpp) : Prop := ∀ p ∈ src, h[p.1]? = some (.lst p.2)
/-- a walk of these items -/
def WalkD (C : Ctx) (H0 : Hp) (mu0 : List Addr) (it : ItS) (J : It) : Prop := it.items.length ≤ LINE ∧ ∃ (G : Hp → Prop) (Y : Nat → Hp → V → Hp → Prop), Walk J it.items.length G Y ∧
  (∀ mu H h, Ext H0 mu0 H mu → RepH C.K C.cl H mu h → srcOk it.src h → G H) ∧
  ∀ i H x H' mu h, Ext H0 mu0 H mu → RepH C.K C.cl H mu h → srcOk it.src h → i < it.items.length → Y i H x H' → ∃ d, it.items[i]? = some d ∧ Same H H' ∧ RelD C.K C.cl H' mu d x
def tI (C : Ctx) (W : WX) (mi : M ItS) : TI := fun s H R => ∃ mu env h, SR C mu env h s H ∧ Post C H mu (WalkD C) (mi env h) R fun c d H' => W c d s H'
theorem PI.imp {X : Cx} {tg e : Expr} {t t' : TI} (h : PI X tg e t) (i : ∀ s H Q, t' s H Q → t s H Q) : PI X tg e t' := ⟨fun pins s σ H R I q => h.run pins s σ H R I (i σ H R q)⟩
/-- the cell that a list stands in -/
def srcOf (d : D) (h : Hpp) : List (Nat × List D) := match d with
  | .ref n => match h[n]? with
    | some (.lst l) => [(n, l)]
    | _ => []
  | _ => []
/-- the list that is walked stands -/
theorem asL_stays {K : PySem.W.Frag} {cl : Nat → Addr → Prop} {H H' : Hp} {mu mu' : List Addr} {h h' : Hpp} {d : D} {v : V} {l : List D} (rd : RelD K cl H mu d v) (e : asL d h = some l) (x : Ext H mu H' mu') (rp' : RepH K cl H' mu' h') (so : srcOk (srcOf d h) h') :
    ∃ a vs, v = .ref a ∧ SqL K H' a vs ∧ RelL K cl H' mu' l vs ∧ l.length ≤ LINE := by
  have e' : asL d h' = some l := by
    cases d with
    | ref n =>
      simp only [asL] at e ⊢
      split at e
      · rename_i l' hh
        cases e
        have z := so (n, l) (by simp [srcOf, hh])
        rw [z]
      · cases e
    | lst l' => exact e
    | frl l' => exact e
    | _ => cases e
  exact asL_of rp' (rd.ext x) e'
theorem RelL.at {K : PySem.W.Frag} {cl : Nat → Addr → Prop} {H : Hp} {mu : List Addr} : ∀ {l : List D} {vs : List V} {i : Nat} {v : V}, RelL K cl H mu l vs → vs[i]? = some v → ∃ d, l[i]? = some d ∧ RelD K cl H mu d v
  | _, _, _, _, .nil, e => by simp at e
  | _, _, 0, _, .cons h _ _, e => by simp at e; subst e; exact ⟨_, rfl, h⟩
  | _, _, i + 1, v, .cons _ _ r, e => by
    obtain ⟨d, a, b⟩ := RelL.at (i := i) (v := v) r (by simpa using e)
    exact ⟨d, by simpa using a, b⟩
def rngD (lo hi : Int) : List D := (List.range (hi - lo).toNat).map fun i => .int (lo + (i : Nat))
theorem rngD_len (lo hi : Int) : (rngD lo hi).length = (hi - lo).toNat := by simp [rngD]
def okRngP (lo hi : Int) : Prop := -(2 ^ 62) ≤ lo ∧ lo < 2 ^ 62 ∧ -(2 ^ 62) ≤ hi ∧ hi < 2 ^ 62 ∧ (hi - lo).toNat ≤ LINE
noncomputable def okRng (lo hi : Int) : Bool := @decide (okRngP lo hi) (Classical.propDecidable _)
theorem okRng_of {lo hi : Int} (h : okRng lo hi = true) : -(2 ^ 62) ≤ lo ∧ lo < 2 ^ 62 ∧ -(2 ^ 62) ≤ hi ∧ hi < 2 ^ 62 ∧ (hi - lo).toNat ≤ LINE := @of_decide_eq_true _ (Classical.propDecidable _) h
theorem okRng_to {lo hi : Int} (h : okRngP lo hi) : okRng lo hi = true := @decide_eq_true _ (Classical.propDecidable _) h
theorem walkD_rng {C : Ctx} {H : Hp} {mu : List Addr} {lo hi : Int} (hz : (hi - lo).toNat ≤ LINE) : WalkD C H mu ⟨rngD lo hi, []⟩ (Itr lo (hi - lo).toNat) := by
  refine ⟨by rw [rngD_len]; exact hz, fun _ => True, _, by rw [rngD_len]; exact walk_range, fun _ _ _ _ _ _ => trivial, fun i H x H' mu h _ _ _ hi y => ?_⟩
  obtain ⟨e1, e2⟩ := y
  subst e1; subst e2
  rw [rngD_len] at hi
  exact ⟨.int (lo + (i : Nat)), by simp [rngD, hi], Same.refl _, .int _⟩
/-- the items of a value -/
noncomputable def itOf (d : D) (h : Hpp) : R ItS := match d with
  | .rng lo hi => if okRng lo hi = true then .ok ⟨rngD lo hi, []⟩ h else .no
  | _ => match asS d h with
    | some l => .ok ⟨l, srcOf d h⟩ h
    | none => .no
noncomputable def iAny (m : EM) : M ItS := fun env h => (m env h).bind itOf
theorem Post.toD {C : Ctx} {H : Hp} {mu : List Addr} {h : Hpp} {it : ItS} {J : It} {R : It → Hp → Prop} {E : XK} (rp : RepH C.K C.cl H mu h) (p : Post C H mu (WalkD C) (.ok it h) R E) (w : WalkD C H mu it J) : R J H := p mu J H .refl rp w
theorem walkD_list {C : Ctx} {H : Hp} {mu : List Addr} {h : Hpp} {d : D} {a : Addr} {l : List D} (rd : RelD C.K C.cl H mu d (.ref a)) (e : asL d h = some l) (hz : l.length ≤ LINE) : WalkD C H mu ⟨l, srcOf d h⟩ (Itl C.K a) := by
  refine ⟨hz, fun H' => ∃ vs, SqL C.K H' a vs ∧ vs.length = l.length, fun i H x H' => H' = H ∧ ∀ xs, SqL C.K H a xs → xs[i]? = some x, ⟨fun i H hi q => ?_, fun H q => ?_, fun i H x H' hi q y => y⟩, fun mu' H' h' x rp' so => ?_, fun i H' v H2 mu' h' x rp' so hi y => ?_⟩
  · obtain ⟨vs, q1, q2⟩ := q
    have hi' : i < vs.length := by rw [q2]; exact hi
    exact ⟨vs, vs[i], q1, by simp [hi']⟩
  · obtain ⟨vs, q1, q2⟩ := q
    exact ⟨vs, q1, Nat.le_of_eq q2⟩
  · obtain ⟨b, vs, e1, e2, e3, _⟩ := asL_stays rd e x rp' so
    cases e1
    exact ⟨vs, e2, e3.len.symm⟩
  · obtain ⟨b, vs, e1, e2, e3, _⟩ := asL_stays rd e x rp' so
    cases e1
    obtain ⟨y1, y2⟩ := y
    subst y1
    obtain ⟨d', z1, z2⟩ := e3.at (y2 vs e2)
    exact ⟨d', z1, Same.refl _, z2⟩
theorem walkD_tup {C : Ctx} {H : Hp} {mu : List Addr} {a : Addr} {l : List D} (rd : RelD C.K C.cl H mu (.tup l) (.ref a)) : WalkD C H mu ⟨l, []⟩ (Itt C.K a) := by
  have hz : l.length ≤ LINE := by cases rd with | tup _ z _ => exact z
  refine ⟨hz, fun H' => ∃ vs, SqT C.K H' a vs ∧ vs.length = l.length, fun i H x H' => H' = H ∧ ∀ xs, SqT C.K H a xs → xs[i]? = some x, ⟨fun i H hi q => ?_, fun H q => ?_, fun i H x H' hi q y => y⟩, fun mu' H' h' x rp' so => ?_, fun i H' v H2 mu' h' x rp' so hi y => ?_⟩
  · obtain ⟨vs, q1, q2⟩ := q
    have hi' : i < vs.length := by rw [q2]; exact hi
    exact ⟨vs, vs[i], q1, by simp [hi']⟩
  · obtain ⟨vs, q1, q2⟩ := q
    exact ⟨vs, q1, Nat.le_of_eq q2⟩
  · cases rd.ext x with
    | tup e2 _ e3 => exact ⟨_, e2.sq, e3.len.symm⟩
  · cases rd.ext x with
    | tup e2 _ e3 =>
      obtain ⟨y1, y2⟩ := y
      subst y1
      obtain ⟨d', z1, z2⟩ := e3.at (y2 _ e2.sq)
      exact ⟨d', z1, Same.refl _, z2⟩
section
variable {C : Ctx} {W : WX} {X : Cx} {pos p : Pos} {tg e : Expr} {m : EM}
theorem di_any (hK : X.K = C.K) (ha : PE X e (tE C W m)) : PI X tg e (tI C W (iAny m)) := PI.imp (pi_seq ha) fun s H R ⟨mu, env, h, sr, p⟩ => by
  refine tE_bind (m := m) sr p fun v H1 mu1 d h1 sr1 e1 rd1 p1 => ?_
  rw [hK]
  cases d with
  | rng lo hi =>
    simp only [itOf] at p1
    split at p1
    · rename_i z
      cases rd1 with
      | rng q1 q2 =>
        obtain ⟨z1, z2, z3, z4, z5⟩ := okRng_of z
        exact ⟨_, rfl, .inr (.inr ⟨lo, hi, q2, z1, z2, z3, z4, Post.toD sr1.hp p1 (walkD_rng z5)⟩)⟩
    · exact p1.elim
  | tup l =>
    simp only [itOf, asS] at p1
    cases rd1 with
    | tup q1 q3 q2 => exact ⟨_, rfl, .inr (.inl ⟨⟨_, q1.sq⟩, Post.toD sr1.hp p1 (walkD_tup (.tup q1 q3 q2))⟩)⟩
  | lst l =>
    simp only [itOf] at p1
    split at p1
    · rename_i l' hs
      obtain ⟨a, vs, e1', e2', e3', e4'⟩ := asL_of sr1.hp rd1 (show asL _ _ = some l' from hs)
      subst e1'
      exact ⟨a, rfl, .inl ⟨⟨vs, e2'⟩, Post.toD sr1.hp p1 (walkD_list rd1 hs e4')⟩⟩
    · exact p1.elim
  | frl l =>
    simp only [itOf] at p1
    split at p1
    · rename_i l' hs
      obtain ⟨a, vs, e1', e2', e3', e4'⟩ := asL_of sr1.hp rd1 (show asL _ _ = some l' from hs)
      subst e1'
      exact ⟨a, rfl, .inl ⟨⟨vs, e2'⟩, Post.toD sr1.hp p1 (walkD_list rd1 hs e4')⟩⟩
    · exact p1.elim
  | ref n =>
    simp only [itOf] at p1
    split at p1
    · rename_i l' hs
      obtain ⟨a, vs, e1', e2', e3', e4'⟩ := asL_of sr1.hp rd1 (show asL _ _ = some l' from hs)
      subst e1'
      exact ⟨a, rfl, .inl ⟨⟨vs, e2'⟩, Post.toD sr1.hp p1 (walkD_list rd1 hs e4')⟩⟩
    · exact p1.elim
  | _ => exact p1.elim
end
end Nb
end
section
set_option Elab.async false
set_option linter.all false
set_option maxRecDepth 100000
set_option maxHeartbeats 1000000
namespace Nb
open PySem PySem.Spec PyProof.Rows L2

noncomputable def iRg1 (ml : M (List D)) : M ItS := fun env h => (ml env h).bind fun l h1 => match l with
  | [.int j] => if okRng 0 j = true then .ok ⟨rngD 0 j, []⟩ h1 else .no
  | _ => .no
noncomputable def iRg2 (ml : M (List D)) : M ItS := fun env h => (ml env h).bind fun l h1 => match l with
  | [.int i, .int j] => if okRng i j = true then .ok ⟨rngD i j, []⟩ h1 else .no
  | _ => .no
def enD (l : List D) : List D := l.mapIdx fun i d => .tup [.int (i : Nat), d]
theorem enD_len (l : List D) : (enD l).length = l.length := by simp [enD]
def iEnu (ml : M (List D)) : M ItS := fun env h => (ml env h).bind fun l h1 => match l with
  | [d] => match asS d h1 with
    | some l => .ok ⟨enD l, srcOf d h1⟩ h1
    | none => .no
  | _ => .no
theorem walkD_enum {C : Ctx} {H : Hp} {mu : List Addr} {h : Hpp} {d : D} {a : Addr} {l : List D} (rd : RelD C.K C.cl H mu d (.ref a)) (e : asL d h = some l) (hz : l.length ≤ LINE) : WalkD C H mu ⟨enD l, srcOf d h⟩ (Ite C.K a) := by
  refine ⟨by rw [enD_len]; exact hz, fun H' => ∃ vs, SqL C.K H' a vs ∧ vs.length = l.length, fun i H v H' => ∃ T x, v = .ref T ∧ H T = none ∧ H' = upd H T (.tup [.int (i : Nat), x]) ∧ ∀ xs, SqL C.K H a xs → xs[i]? = some x, ⟨fun i H hi q => ?_, fun H q => ?_, fun i H x H' hi q y => y⟩, fun mu' H' h' x rp' so => ?_, fun i H' v H2 mu' h' x rp' so hi y => ?_⟩
  · obtain ⟨vs, q1, q2⟩ := q
    have hi' : i < vs.length := by rw [q2]; rw [enD_len] at hi; exact hi
    exact ⟨vs, vs[i], q1, by simp [hi']⟩
  · obtain ⟨vs, q1, q2⟩ := q
    exact ⟨vs, q1, by rw [enD_len]; exact Nat.le_of_eq q2⟩
  · obtain ⟨b, vs, e1, e2, e3, _⟩ := asL_stays rd e x rp' so
    cases e1
    exact ⟨vs, e2, e3.len.symm⟩
  · obtain ⟨b, vs, e1, e2, e3, _⟩ := asL_stays rd e x rp' so
    cases e1
    obtain ⟨T, x', y1, y2, y3, y4⟩ := y
    subst y1; subst y3
    obtain ⟨d', z1, z2⟩ := e3.at (y4 vs e2)
    obtain ⟨v', z3, z4, z5⟩ := e3.get z1
    rw [y4 vs e2] at z3; cases z3
    exact ⟨.tup [.int (i : Nat), d'], by simp [enD, z1], same_new y2, fz_tup rp' y2 (by simp; decide) (.cons (.int _) rfl (.cons z4 z5 .nil))⟩
theorem walkD_enumT {C : Ctx} {H : Hp} {mu : List Addr} {a : Addr} {l : List D} (rd : RelD C.K C.cl H mu (.tup l) (.ref a)) : WalkD C H mu ⟨enD l, []⟩ (IteT C.K a) := by
  have hz : l.length ≤ LINE := by cases rd with | tup _ z _ => exact z
  refine ⟨by rw [enD_len]; exact hz, fun H' => ∃ vs, SqT C.K H' a vs ∧ vs.length = l.length, fun i H v H' => ∃ T x, v = .ref T ∧ H T = none ∧ H' = upd H T (.tup [.int (i : Nat), x]) ∧ ∀ xs, SqT C.K H a xs → xs[i]? = some x, ⟨fun i H hi q => ?_, fun H q => ?_, fun i H x H' hi q y => y⟩, fun mu' H' h' x rp' so => ?_, fun i H' v H2 mu' h' x rp' so hi y => ?_⟩
  · obtain ⟨vs, q1, q2⟩ := q
    have hi' : i < vs.length := by rw [q2]; rw [enD_len] at hi; exact hi
    exact ⟨vs, vs[i], q1, by simp [hi']⟩
  · obtain ⟨vs, q1, q2⟩ := q
    exact ⟨vs, q1, by rw [enD_len]; exact Nat.le_of_eq q2⟩
  · cases rd.ext x with
    | tup e2 _ e3 => exact ⟨_, e2.sq, e3.len.symm⟩
  · cases rd.ext x with
    | tup e2 _ e3 =>
      obtain ⟨T, x', y1, y2, y3, y4⟩ := y
      subst y1; subst y3
      obtain ⟨d', z1, z2⟩ := e3.at (y4 _ e2.sq)
      obtain ⟨v', z3, z4, z5⟩ := e3.get z1
      rw [y4 _ e2.sq] at z3; cases z3
      exact ⟨.tup [.int (i : Nat), d'], by simp [enD, z1], same_new y2, fz_tup rp' y2 (by simp; decide) (.cons (.int _) rfl (.cons z4 z5 .nil))⟩
section
variable {C : Ctx} {W : WX} {X : Cx} {pos p tpos : Pos} {tg e a b : Expr} {m : EM} {ml : M (List D)}
theorem di_range1 (hg : Gl X "range") (hm : X.mg "range" = none) (ha : PA X [a] (tA C W ml)) (hs : starEach [a] X.env = [(false, eval a X.env)]) : PI X tg (.Call (.Name "range" p) [a] [] pos) (tI C W (iRg1 ml)) := PI.imp (pi_range1 hg hm ha hs) fun s H R ⟨mu, env, h, sr, p⟩ => by
  refine tA_bind (m := ml) sr p fun vs H1 mu1 ds h1 sr1 e1 rd1 p1 => ?_
  split at p1
  · split at p1
    · rename_i z
      obtain ⟨z1, z2, z3, z4, z5⟩ := okRng_of z
      cases rd1 with
      | cons r rr => cases rr; cases r; exact ⟨_, rfl, z3, z4, Post.toD sr1.hp p1 (by have w := walkD_rng (C := C) (H := H1) (mu := mu1) z5; simpa using w)⟩
    · exact p1.elim
  · exact p1.elim
theorem di_range2 (hg : Gl X "range") (hm : X.mg "range" = none) (ha : PA X [a, b] (tA C W ml)) (hs : starEach [a, b] X.env = [(false, eval a X.env), (false, eval b X.env)]) (hs2 : starEach [b] X.env = [(false, eval b X.env)]) : PI X tg (.Call (.Name "range" p) [a, b] [] pos) (tI C W (iRg2 ml)) := PI.imp (pi_range2 hg hm ha hs hs2) fun s H R ⟨mu, env, h, sr, p⟩ => by
  refine tA_bind (m := ml) sr p fun vs H1 mu1 ds h1 sr1 e1 rd1 p1 => ?_
  split at p1
  · split at p1
    · rename_i z
      obtain ⟨z1, z2, z3, z4, z5⟩ := okRng_of z
      cases rd1 with
      | cons r rr => cases rr with
        | cons r2 rr => cases rr; cases r; cases r2; exact ⟨_, _, rfl, ⟨z1, z2, z3, z4⟩, Post.toD sr1.hp p1 (walkD_rng z5)⟩
    · exact p1.elim
  · exact p1.elim
theorem di_enum {elts : List Expr} {kk : Nat} (hK : X.K = C.K) (hg : Gl X "enumerate") (hm : X.mg "enumerate" = none) (ha : PA X [a] (tA C W ml)) (hs : starEach [a] X.env = [(false, eval a X.env)]) : PI X (.Tuple elts kk tpos) (.Call (.Name "enumerate" p) [a] [] pos) (tI C W (iEnu ml)) := PI.imp (pi_enumA hg hm ha hs) fun s H R ⟨mu, env, h, sr, p⟩ => by
  refine tA_bind (m := ml) sr p fun vs H1 mu1 ds h1 sr1 e1 rd1 p1 => ?_
  rw [hK]
  split at p1
  · rename_i d
    cases rd1 with
    | cons r rr =>
    cases rr
    split at p1
    · rename_i l hs
      cases r with
      | @tup l0 a ws e2 e4 e3 =>
        have z : l = l0 := (Option.some.inj hs).symm
        subst z
        exact ⟨a, ws, rfl, .inr ⟨e2.sq, Post.toD sr1.hp p1 (walkD_enumT (.tup e2 e4 e3))⟩⟩
      | lst q1 q2 q4 q3 =>
        obtain ⟨a, ws, e1, e2, e3, e4⟩ := asL_of (d := .lst _) sr1.hp (.lst q1 q2 q4 q3) hs
        cases e1
        exact ⟨_, ws, rfl, .inl ⟨e2, Post.toD sr1.hp p1 (walkD_enum (.lst q1 q2 q4 q3) hs e4)⟩⟩
      | frl q1 q4 q3 =>
        obtain ⟨a, ws, e1, e2, e3, e4⟩ := asL_of (d := .frl _) sr1.hp (.frl q1 q4 q3) hs
        cases e1
        exact ⟨_, ws, rfl, .inl ⟨e2, Post.toD sr1.hp p1 (walkD_enum (.frl q1 q4 q3) hs e4)⟩⟩
      | ref q1 =>
        obtain ⟨a, ws, e1, e2, e3, e4⟩ := asL_of (d := .ref _) sr1.hp (.ref q1) hs
        cases e1
        exact ⟨_, ws, rfl, .inl ⟨e2, Post.toD sr1.hp p1 (walkD_enum (.ref q1) hs e4)⟩⟩
      | _ => cases hs
    · exact p1.elim
  · exact p1.elim
end

abbrev Tg := D → Env → Option Env
def tgN (i : Nat) : Tg := fun d env => if i < env.length then some (env.set i (some d)) else none
def tgs : List Nat → List D → Env → Option Env
  | [], [], env => some env
  | i :: is, d :: ds, env => if i < env.length then tgs is ds (env.set i (some d)) else none
  | _, _, _ => none
def tgT (is : List Nat) : Tg := fun d env => match d with
  | .tup l => tgs is l env
  | _ => none
theorem RelE.set {K : PySem.W.Frag} {cl : Nat → Addr → Prop} {H : Hp} {mu : List Addr} {env : Env} {s : L2.St} {i : Nat} {d : D} {v : V} (r : RelE K cl H mu env s) (rd : RelD K cl H mu d v) : RelE K cl H mu (env.set i (some d)) (s.set i (some v)) := by
  refine ⟨by simp [r.1], fun j d' e => ?_⟩
  by_cases hj : i = j
  · subst hj
    by_cases hl : i < env.length
    · rw [List.getElem?_set_self hl] at e
      cases e
      exact ⟨v, by rw [List.getElem?_set_self (Nat.lt_of_lt_of_le hl r.1)], rd⟩
    · rw [List.getElem?_eq_none (by simpa using hl)] at e; cases e
  · rw [List.getElem?_set_ne hj] at e
    obtain ⟨v', q1, q2⟩ := r.2 j d' e
    exact ⟨v', by rw [List.getElem?_set_ne hj]; exact q1, q2⟩
/-- env' is env with slots of is set -/
def SimG (C : Ctx) (t : Tg) (g : TG) (is : List Nat) : Prop := ∀ (H : Hp) (mu : List Addr) (h : Hpp) (env env' : Env) (s : L2.St) (d : D) (v : V) (Q : L2.St → Hp → Prop), RepH C.K C.cl H mu h → RelE C.K C.cl H mu env s → RelD C.K C.cl H mu d v → t d env = some env' →
  (∀ s', RelE C.K C.cl H mu env' s' → (∀ vs : List Nat, (∀ i ∈ is, i ∈ vs) → wipe s' vs = wipe s vs) → Q s' H) → g v s H Q
theorem wipe_set {s : L2.St} {i : Nat} {x : Option V} : ∀ {vs : List Nat}, i ∈ vs → wipe (s.set i x) vs = wipe s vs
  | v :: vs, hm => by
    unfold wipe
    by_cases hi : i ∈ vs
    · rw [wipe_set hi]
    · have e : i = v := by
        rcases List.mem_cons.mp hm with z | z
        · exact z
        · exact absurd z hi
      subst e
      have aux : ∀ ws : List Nat, i ∉ ws → wipe (s.set i x) ws = (wipe s ws).set i x := by
        intro ws
        induction ws with
        | nil => intro _; rfl
        | cons w ws ih =>
          intro hn
          simp only [List.mem_cons, not_or] at hn
          unfold wipe
          rw [ih hn.2, List.set_comm _ _ (fun z => hn.1 z)]
      rw [aux vs hi, List.set_set]
theorem wipe_none {s : L2.St} {i : Nat} : ∀ {vs : List Nat}, i ∈ vs → (wipe s vs)[i]? = none ∨ (wipe s vs)[i]? = some none
  | v :: vs, hm => by
    unfold wipe
    by_cases hi : v = i
    · subst hi
      by_cases hl : v < (wipe s vs).length
      · exact .inr (by rw [List.getElem?_set_self hl])
      · exact .inl (List.getElem?_eq_none (by simpa using hl))
    · rw [List.getElem?_set_ne hi]
      exact wipe_none ((List.mem_cons.mp hm).resolve_left fun z => hi z.symm)
theorem wipe_idem {s : L2.St} {vs : List Nat} : wipe (wipe s vs) vs = wipe s vs := by
  have aux : ∀ ws : List Nat, (∀ i ∈ ws, i ∈ vs) → wipe (wipe s vs) ws = wipe s vs := by
    intro ws
    induction ws with
    | nil => intro _; rfl
    | cons w ws ih =>
      intro hn
      show (wipe (wipe s vs) ws).set w none = wipe s vs
      rw [ih fun i hi => hn i (List.mem_cons_of_mem _ hi)]
      rcases wipe_none (s := s) (hn w List.mem_cons_self) with z | z
      · exact List.set_eq_of_length_le (by simpa using z)
      · obtain ⟨hl, e⟩ := List.getElem?_eq_some_iff.mp z
        rw [← e]; exact List.set_getElem_self hl
  exact aux vs fun _ h => h
def wipeE (env : Env) : List Nat → Env
  | [] => env
  | v :: vs => (wipeE env vs).set v none
theorem RelE.wipe {K : PySem.W.Frag} {cl : Nat → Addr → Prop} {H : Hp} {mu : List Addr} {env : Env} {s : L2.St} (r : RelE K cl H mu env s) : ∀ vs : List Nat, RelE K cl H mu (wipeE env vs) (wipe s vs)
  | [] => r
  | v :: vs => by
    have ih := RelE.wipe r vs
    unfold wipeE L2.wipe
    refine ⟨by simp [ih.1], fun j d e => ?_⟩
    by_cases hj : v = j
    · subst hj
      by_cases hl : v < (wipeE env vs).length
      · rw [List.getElem?_set_self hl] at e; cases e
      · rw [List.getElem?_eq_none (by simpa using hl)] at e; cases e
    · rw [List.getElem?_set_ne hj] at e
      obtain ⟨v', q1, q2⟩ := ih.2 j d e
      exact ⟨v', by rw [List.getElem?_set_ne hj]; exact q1, q2⟩
theorem simG_name {C : Ctx} {i : Nat} : SimG C (tgN i) (gName i) [i] := by
  intro H mu h env env' s d v Q rp re rd e q
  unfold tgN at e
  split at e
  · cases e
    exact q _ (re.set rd) fun vs hv => wipe_set (hv i (by simp))
  · cases e
def gNames : List Nat → TGs
  | [] => gNil
  | i :: is => gCons (gName i) (gNames is)
theorem simGs {C : Ctx} {H : Hp} {mu : List Addr} {Q : L2.St → Hp → Prop} : ∀ {is : List Nat} {ds : List D} {vs : List V} {env env' : Env} {s : L2.St}, RelE C.K C.cl H mu env s → RelL C.K C.cl H mu ds vs → tgs is ds env = some env' →
    (∀ s', RelE C.K C.cl H mu env' s' → (∀ ws : List Nat, (∀ i ∈ is, i ∈ ws) → wipe s' ws = wipe s ws) → Q s' H) → gNames is vs s H Q
  | [], [], vs, env, env', s, re, rl, e, q => by
    cases rl
    cases e
    exact ⟨rfl, q s re fun _ _ => rfl⟩
  | i :: is, d :: ds, _, env, env', s, re, .cons rd _ rl, e, q => by
    unfold tgs at e
    split at e
    · exact ⟨_, _, rfl, simGs (re.set rd) rl e fun s' re' w => q s' re' fun ws hw => by rw [w ws fun j hj => hw j (List.mem_cons_of_mem _ hj)]; exact wipe_set (hw i List.mem_cons_self)⟩
    · cases e
  | [], _ :: _, _, _, _, _, _, _, e, _ => by cases e
  | _ :: _, [], _, _, _, _, _, _, e, _ => by cases e
theorem tgs_len : ∀ {is : List Nat} {ds : List D} {env env' : Env}, tgs is ds env = some env' → ds.length = is.length
  | [], [], _, _, _ => rfl
  | i :: is, d :: ds, env, env', e => by
    unfold tgs at e
    split at e
    · simp [tgs_len e]
    · cases e
  | [], _ :: _, _, _, e => by cases e
  | _ :: _, [], _, _, e => by cases e
theorem simG_tup {C : Ctx} {is : List Nat} : SimG C (tgT is) (gTup C.K is.length (gNames is)) is := by
  intro H mu h env env' s d v Q rp re rd e q
  unfold tgT at e
  split at e
  · cases rd with
    | tup e2 e4 e3 => exact ⟨_, _, rfl, e2.sq, by rw [← e3.len, tgs_len e], simGs re e3 e q⟩
  · cases e

open Classical in
/-- the turns: n the new list's cell -/
noncomputable def lcGo (n : Nat) (src : List (Nat × List D)) (turn : D → Hpp → R (Option D)) : List D → List D → Hpp → R (List D)
  | acc, [], h => if srcOk src h ∧ h[n]? = some (.lst acc) then .ok acc h else .no
  | acc, d :: ds, h => if srcOk src h then (match turn d h with
      | .ok none h1 => lcGo n src turn acc ds h1
      | .ok (some y) h1 => if y.isRef = false ∧ h1[n]? = some (.lst acc) then lcGo n src turn (acc ++ [y]) ds (h1.set n (.lst (acc ++ [y]))) else .no
      | _ => .no)
    else .no
theorem lc_src {n : Nat} {src : List (Nat × List D)} {turn : D → Hpp → R (Option D)} {acc ds : List D} {h : Hpp} (z : lcGo n src turn acc ds h ≠ .no) : srcOk src h := by
  cases ds with
  | nil =>
    unfold lcGo at z
    split at z
    · rename_i q; exact q.1
    · exact absurd rfl z
  | cons d ds =>
    unfold lcGo at z
    split at z
    · assumption
    · exact absurd rfl z
def lcTurn (t : Tg) (tt : M Bool) (te : EM) (env : Env) (d : D) (h : Hpp) : R (Option D) := match t d env with
  | none => .no
  | some env' => (tt env' h).bind fun b h1 => if b = true then (te env' h1).bind fun y h2 => .ok (some y) h2 else .ok none h1
noncomputable def eLc (fr : Bool) (mi : M ItS) (t : Tg) (tt : M Bool) (te : EM) (vs : List Nat) : EM := fun env h => (mi env h).bind fun it h1 =>
  (lcGo h1.length it.src (lcTurn t tt te (wipeE env vs)) [] it.items (h1 ++ [.lst []])).bind fun acc h2 => if fr = true then .ok (.ref h1.length) h2 else .ok (.lst acc) (h2.take h1.length)
theorem RepH.cellAt {K : PySem.W.Frag} {cl : Nat → Addr → Prop} {H : Hp} {mu : List Addr} {h : Hpp} (r : RepH K cl H mu h) {n : Nat} {a : Addr} {l : List D} (e : mu[n]? = some a) (q : h[n]? = some (.lst l)) : ∃ vs, H a = some (.lst vs) ∧ l.length ≤ LINE ∧ RelL K cl H mu l vs := r.cells n a _ e q
def WNo : WX := fun _ _ _ _ => False
section
variable {C : Ctx} {W : WX} {X : Cx} {pos p tpos : Pos} {tg e a b : Expr} {mi : M ItS} {t : Tg} {tt : M Bool} {te : EM} {g : TG} {is : List Nat}
theorem lc_sim (fr : Bool) {vs : List Nat} (sg : SimG C t g is) (hsub : ∀ i ∈ is, i ∈ vs) : ∀ s H Q, tE C W (eLc fr mi t tt te vs) s H Q → tLc (tI C W mi) g (tT C WNo tt) (tE C WNo te) vs s H Q := fun s H Q ⟨mu, env, h, sr, p⟩ => by
  refine ⟨mu, env, h, sr, (Post.bind (Rl := WalkD C) p).mono (fun J H1 ⟨mu1, it, h1, e1, rp1, wd, p1⟩ D hD => ?_) fun _ _ _ z => z⟩
  clear p
  obtain ⟨hz, G, Y, w, w1, w2⟩ := wd
  have hl1 := rp1.len
  have hDn : D ∉ mu1 := rp1.off hD
  have e2 : Ext H1 mu1 (upd H1 D (.lst [])) (mu1 ++ [D]) := Ext.cell hD
  have rp2 : RepH C.K C.cl (upd H1 D (.lst [])) (mu1 ++ [D]) (h1 ++ [.lst []]) := rp1.cell hD ⟨[], upd_same, by simp, .nil⟩
  have sl : sizeLine = LINE := sizeLine_eq
  have hg2 : (mu1 ++ [D])[h1.length]? = some D := by rw [← hl1]; simp
  have sr1 : SR C mu1 env h1 s H1 := sr.to e1 rp1
  have re1 : RelE C.K C.cl H1 mu1 (wipeE env vs) (wipe s vs) := sr1.en.wipe _
  generalize hturn : lcTurn t tt te (wipeE env vs) = turn at p1
  have noE : ∀ {k : List Nb.D → Hpp → R Nb.D} {r : R (List Nb.D)}, Post C H1 mu1 (RlD C) (r.bind k) Q (fun c d H' => W c d s H') → r ≠ .no := fun {k r} q z => by
    rw [z] at q; exact q.elim
  refine lc_it w (fun i H' => i ≤ it.items.length ∧ ∃ mu' h' acc, Ext (upd H1 D (.lst [])) (mu1 ++ [D]) H' mu' ∧ RepH C.K C.cl H' mu' h' ∧ acc.length ≤ i ∧ Post C H1 mu1 (RlD C) ((lcGo h1.length it.src turn acc (it.items.drop i) h').bind fun acc h2 => if fr = true then .ok (.ref h1.length) h2 else .ok (.lst acc) (h2.take h1.length)) Q (fun c d H' => W c d s H'))
    ⟨Nat.zero_le _, mu1 ++ [D], _, [], .refl, rp2, Nat.le_refl _, p1⟩ ?_ ?_ ?_
  · rintro i H' hi ⟨_, mu', h', acc, x, rp', _, q⟩
    exact w1 mu' H' h' (e2.trans x) rp' (lc_src (noE q))
  · rintro i x H' H'' hlt ⟨_, mu', h', acc, x1, rp', hac, q⟩ y
    have so := lc_src (noE q)
    obtain ⟨d, hd, sm, rd⟩ := w2 i H' x H'' mu' h' (e2.trans x1) rp' so hlt y
    have hdr : it.items.drop i = d :: it.items.drop (i + 1) := by
      obtain ⟨h0, h1'⟩ := List.getElem?_eq_some_iff.mp hd
      rw [List.drop_eq_getElem_cons h0, h1']
    rw [hdr] at q
    unfold lcGo at q
    rw [if_pos so] at q
    have x2 : Ext H' mu' H'' mu' := Ext.same sm
    have rp'' := rp'.same sm
    have re2 : RelE C.K C.cl H'' mu' (wipeE env vs) (wipe s vs) := re1.ext ((e2.trans x1).trans x2)
    cases hte : t d (wipeE env vs) with
    | none =>
      have ht' : turn d h' = .no := by rw [← hturn]; simp only [lcTurn, hte]
      rw [ht'] at q; exact q.elim
    | some env' =>
    refine sg H'' mu' h' _ env' _ d x _ rp'' re2 rd hte fun s' re' hw => ⟨(hw _ hsub).trans wipe_idem, ?_⟩
    have srt : SR C mu' env' h' s' H'' := ⟨sr1.ext.trans ((e2.trans x1).trans x2), rp'', re'⟩
    refine ⟨mu', env', h', srt, ?_⟩
    cases htt : tt env' h' with
    | no =>
      have ht' : turn d h' = .no := by rw [← hturn]; simp only [lcTurn, hte, htt, R.bind]
      rw [ht'] at q; exact q.elim
    | exc c l h2 =>
      have ht' : turn d h' = .exc c l h2 := by rw [← hturn]; simp only [lcTurn, hte, htt, R.bind]
      rw [ht'] at q; exact q.elim
    | ok b h2 =>
      intro mu3 b' H3 x3 rp3 eb
      have eb' : b = b' := eb
      subst eb'
      cases b with
      | false =>
        have ht' : turn d h' = .ok none h2 := by rw [← hturn]; simp only [lcTurn, hte, htt, R.bind, if_neg Bool.false_ne_true]
        rw [ht'] at q
        exact ⟨hlt, mu3, h2, acc, (x1.trans x2).trans x3, rp3, Nat.le_succ_of_le hac, q⟩
      | true =>
        rw [if_pos rfl]
        refine ⟨mu3, env', h2, srt.to x3 rp3, ?_⟩
        cases hte2 : te env' h2 with
        | no =>
          have ht' : turn d h' = .no := by rw [← hturn]; simp [lcTurn, hte, htt, R.bind, hte2]
          rw [ht'] at q; exact q.elim
        | exc c l h3 =>
          have ht' : turn d h' = .exc c l h3 := by rw [← hturn]; simp [lcTurn, hte, htt, R.bind, hte2]
          rw [ht'] at q; exact q.elim
        | ok yd h3 =>
          intro mu4 yv H4 x4 rp4 ry
          have ht' : turn d h' = .ok (some yd) h3 := by rw [← hturn]; simp [lcTurn, hte, htt, R.bind, hte2]
          rw [ht'] at q
          simp only at q
          split at q
          · rename_i hcond
            have x5 := ((x1.trans x2).trans x3).trans x4
            have hD4 : mu4[h1.length]? = some D := x5.get hg2
            obtain ⟨vs, g1, g2, g3⟩ := rp4.cellAt hD4 hcond.2
            have hln : acc.length < LINE := by omega
            refine ⟨vs, g1, by rw [sl, ← g3.len]; exact hln, hlt, mu4, _, acc ++ [yd], x5.trans (Ext.put (List.mem_of_getElem? hD4)), ?_, by simp; exact hac, q⟩
            exact rp4.put hD4 g1 (fun x => nofun) (by nofun) ⟨vs ++ [yv], upd_same, by simp; omega, (g3.append (.cons ry hcond.1 .nil)).ext (Ext.put (List.mem_of_getElem? hD4))⟩
          · exact q.elim
  · rintro H' ⟨_, mu', h', acc, x1, rp', hac, q⟩
    rw [List.drop_length] at q
    unfold lcGo at q
    split at q
    · rename_i hcond
      have hD4 : mu'[h1.length]? = some D := x1.get hg2
      obtain ⟨vs, g1, g2, g3⟩ := rp'.cellAt hD4 hcond.2
      obtain ⟨nu, hnu⟩ := (e2.trans x1).pre
      cases fr with
      | true => exact q mu' (.ref D) H' (e2.trans x1) rp' (.ref hD4)
      | false =>
        subst hnu
        have rc := rp'.cut
        rw [hl1] at rc
        exact q mu1 (.ref D) H' (e2.trans x1).cut rc (.lst hDn g1 g2 g3.cut)
    · exact q.elim
theorem de_lc (fr : Bool) {elt tg iter : Expr} {ifs : List Expr} {scope : Scope} {own : List (Str × Nat)} (hc : X.calm = true) (hN : X.N.Nodup) (hi : PI X tg iter (tI C W mi)) (ok : BlkOk X.N X.env.scope scope own)
    (hg : ∀ (s : Shared) (H : Hp) (C : Addr) (cl : List (Str × Addr)) (fp : List Addr), PG (X.blk s H scope (compEnvC scope cl C X.env) fp) tg g) (sg : SimG C t g is) (hsub : ∀ i ∈ is, i ∈ own.map (·.2))
    (ht : ∀ (s : Shared) (H : Hp) (D : Addr) (cl : List (Str × Addr)) (fp : List Addr), PTs (X.blk s H scope (compEnvC scope cl D X.env) fp) ifs (tT C WNo tt))
    (he : ∀ (s : Shared) (H : Hp) (D : Addr) (cl : List (Str × Addr)) (fp : List Addr), PE (X.blk s H scope (compEnvC scope cl D X.env) fp) elt (tE C WNo te)) (hs : ∀ x, foldedSetIterable iter X.env x = pure x) :
    PE X (.ListComp elt [⟨tg, iter, ifs, 0⟩] scope pos) (tE C W (eLc fr mi t tt te (own.map (·.2)))) := PE.imp (pe_lc hc hN hi ok hg ht he hs) (lc_sim fr sg hsub)
end
end Nb
end
section
set_option Elab.async false
set_option linter.all false
set_option maxRecDepth 100000
set_option maxHeartbeats 1000000
namespace SrtT
open PySem PyProof.Rows Srt SrtO PySem.W
section
variable {prog : Program} {w : World} {A : Around} {E : Value → Shared → Prop} {s : Shared}
theorem lex_walk {fin : Bool} {Q : Bool → Shared → Prop} : ∀ {us ws : List Value} {ns ms : List Int} {i : Nat}, IntsAre us ns → IntsAre ws ms → fin = decide (us.length < ws.length) → Q (HT.lexLt ns ms) s → KatLex prog w A true fin Q (us.zip ws) i s
  | _, _, _, _, i, .nil, .nil, e, h => by
    rw [HT.lexLt_nil_nil] at h
    refine kat_nil ?_
    rw [e]; simpa using h
  | _, _, _, _, i, .nil, .cons y u r, e, h => by
    rw [HT.lexLt_nil_cons] at h
    refine kat_nil ?_
    rw [e]; simpa using h
  | _, _, _, _, i, .cons x t r, .nil, e, h => by
    rw [HT.lexLt_cons_nil] at h
    refine kat_nil ?_
    rw [e]; simpa using h
  | _, _, _, _, i, .cons x t r, .cons y u r', e, h => by
    rw [HT.lexLt_cons] at h
    rw [List.zip_cons_cons]
    refine kat_cons (SeqAt.EqAt.int_int x t y u prog w _ _ ?_)
    refine kat_go (fun e1 => ?_) (fun e1 => ?_)
    · have ex : x = y := by simpa using e1
      rw [if_pos ex] at h
      exact kat_yes (lex_walk r r' (by rw [e]; simp) h)
    · have ex : ¬ x = y := by simpa using e1
      rw [if_neg ex] at h
      exact kat_no (TS.oneLt_ints _ h)
theorem tups_cmp {vs : List Value} {k : Value → List Int} (hp : ∀ v ∈ vs, TS.TupInts s.heap v (k v)) : Cmp prog w A s (tuples' true) (fun p => p.1 ∈ vs) (lt2 fun v u => HT.lexLt (k v) (k u)) := by
  intro p q hm hm'
  have h1 := hp _ hm
  have h2 := hp _ hm'
  show wpAny (model prog w) A (keyLt' (tuples' true) p.1 q.1) (fun r s' => s' = s ∧ r = HT.lexLt (k p.1) (k q.1)) (fun _ _ => False) s
  generalize k p.1 = ns at h1 ⊢
  generalize k q.1 = ms at h2 ⊢
  obtain ⟨a, xs, e, ⟨o, ho, hc, n, hd⟩, i⟩ := h1
  obtain ⟨a', ys, e', ⟨o', ho', hc', n', hd'⟩, i'⟩ := h2
  rw [e, e']
  exact kat_lt ho hd ho' hd' (lex_walk i i' (by simp) ⟨rfl, rfl⟩)
theorem tups_firsts {h : Heap} {k : Value → List Int} : ∀ vs : List Value, (∀ v ∈ vs, TS.TupInts h v (k v) ∧ k v ≠ []) → ∃ fs, KatTups h vs fs ∧ fs.length = vs.length ∧ ∀ f, f ∈ fs → ∃ n t, f = Value.int n t
  | [], _ => ⟨[], KatTups.nil, rfl, fun f hf => by simp at hf⟩
  | v :: vs, x => by
    obtain ⟨fs, kk, hl, hi⟩ := tups_firsts vs fun u hu => x u (List.mem_cons_of_mem _ hu)
    obtain ⟨⟨a, xs, e0, ⟨o, ho, hc, n, hdt⟩, i⟩, hn⟩ := x v List.mem_cons_self
    generalize k v = ns at i hn
    subst e0
    obtain ⟨y, ys, e, m, t, hy⟩ : ∃ y ys, xs.toList = y :: ys ∧ ∃ m t, y = Value.int m t := by
      cases q : xs.toList with
      | nil =>
        rw [q] at i
        cases i
        exact absurd rfl hn
      | cons y ys =>
        rw [q] at i
        cases i with
        | cons m t _ => exact ⟨_, ys, rfl, m, t, rfl⟩
    refine ⟨y :: fs, KatTups.cons ho hc hdt ?_ kk, by simp [hl], ?_⟩
    · have z := congrArg (fun l : List Value => l[0]?) e
      simpa using z
    · intro f hf
      rcases List.mem_cons.mp hf with rfl | hf
      · exact ⟨m, t, hy⟩
      · exact hi f hf
theorem tups_sortable {a : Addr} {vs : List Value} {k : Value → List Int} (h2 : 2 ≤ vs.length) (hp : ∀ v ∈ vs, TS.TupInts s.heap v (k v) ∧ k v ≠ []) (ha : ∀ o, s.heap.get? a = some o → o.cls ≠ .type "tuple") : SortableO prog w A s a vs fun v u => HT.lexLt (k v) (k u) := by
  intro h' keep
  have hp' : ∀ v ∈ vs, TS.TupInts h' v (k v) ∧ k v ≠ [] := fun v hm => ⟨(hp v hm).1.keeps fun b o e c => keep b o (fun z => by subst z; exact ha o e c) e, (hp v hm).2⟩
  obtain ⟨fs, h1, h2', h3⟩ := tups_firsts vs hp'
  refine ⟨tuples' true, fun Q E hq => ?_, tups_cmp fun v hm => (hp' v hm).1⟩
  refine kat_kind (T := .type "int") h1 (by omega) (fun f hm => ?_) (by rfl) ?_
  · obtain ⟨x, t, rfl⟩ := h3 f hm
    exact Looks.now
  · have e : (Value.type "int" != Value.type "tuple") = true := by first | decide +kernel | rfl | decide
    rw [e]
    exact hq
theorem sorted_tupsO {l : Addr} {vs : List Value} {k : Value → List Int} {Q : Value → Shared → Prop} (hl : s.heap.IsList l vs.toArray) (hz : vs.length ≤ sizeLine) (hp : ∀ v ∈ vs, TS.TupInts s.heap v (k v)) (hn : vs.length < 2 ∨ ∀ v ∈ vs, k v ≠ [])
    (h : ∀ (h' : Heap) (d : Addr) (out : List Value), Srtd (fun v u => HT.lexLt (k v) (k u)) out → Stb (fun v u => HT.lexLt (k v) (k u)) out vs → (∀ b o, s.heap.get? b = some o → h'.get? b = some o) → s.heap.objs.size ≤ d → (∃ n, h'.get? d = some (seqObj "list" out.toArray n)) → Q (.ref d) { s with heap := h' }) :
    wpAny (model prog w) A (call (.builtin "sorted") [.ref l]) Q E s := by
  refine sorted_ord (NtL.swo_lexL k) hl hz (fun h2 h₁ a ha kk => ?_) fun out hs hb => ?_
  · refine tups_sortable (s := { s with heap := h₁ }) h2 (fun v hm => ⟨(hp v hm).keeps fun b o e _ => (kk b o e).2, (hn.resolve_left (by omega)) v hm⟩) fun o e => ?_
    have e' : some o = some (seqObj "list" vs.toArray 0) := e.symm.trans ha
    cases e'
    intro c
    exact absurd (Value.type.inj c) (by decide)
  · exact h _ _ out hs hb (fun b o e => sortedAll_old e) (Nat.le_succ _) (sortedAll_at s.heap vs out.toArray)
end
end SrtT
namespace L2
open PySem PySem.Spec PyProof.Rows
def rSortTs (K : PySem.W.Frag) : List V → Hp → VK → Prop := fun vs H Q => ∃ (a : Addr) (ps : List (V × List Int)), vs = [V.ref a] ∧ SqL K H a (ps.map (·.1)) ∧ (∀ p ∈ ps, ∃ t, p.1 = .ref t ∧ SqT K H t (p.2.map V.int)) ∧ (ps.length < 2 ∨ ∀ p ∈ ps, p.2 ≠ []) ∧
  ∀ (qs : List (V × List Int)) (p : Addr), qs.Perm ps → qs.Pairwise (fun x y => HT.lexLt y.2 x.2 = false) → H p = none → Q (.ref p) (upd H p (.lst (qs.map (·.1))))
theorem zip_back {h : Heap} : ∀ {ps : List (V × List Int)} {its : List Value}, Vals (ps.map (·.1)) its → (∀ p ∈ ps, ∃ t, p.1 = .ref t ∧ TS.TupInts h (.ref t) p.2) → ps = its.map (fun v => (backV v, TS.intsOf h v)) ∧ ∀ v ∈ its, ∃ t, v = Value.ref t
  | [], _, .nil, _ => ⟨rfl, fun _ z => by simp at z⟩
  | p :: ps, _, .cons r rr, hp => by
    obtain ⟨t, e, ti⟩ := hp p List.mem_cons_self
    obtain ⟨e1, e2⟩ := zip_back rr fun q hq => hp q (List.mem_cons_of_mem _ hq)
    obtain ⟨p1, p2⟩ := p
    simp only at e r ti
    subst e
    cases r
    refine ⟨by rw [List.map_cons, ← e1]; simp [backV, ti.ints], fun v hv => ?_⟩
    rcases List.mem_cons.mp hv with z | z
    · exact ⟨t, z⟩
    · exact e2 v z
section
variable {X : Cx}
theorem cr_sortTs : CallR X (.builtin "sorted") (rSortTs X.K) := by
  intro pins s σ H vs us Q I r h
  obtain ⟨a, ps, rfl, hs, hp, hn, q⟩ := h
  obtain ⟨its, rv, hl, hz⟩ := I.list hs
  rw [Vals.ref1 r]
  obtain ⟨e1, e2⟩ := zip_back (h := s.heap) rv fun p hm => by
    obtain ⟨t, e, ht⟩ := hp p hm
    exact ⟨t, e, tupI_raw I ht⟩
  have hlen0 : ps.length = its.length := by rw [e1, List.length_map]
  refine SrtT.sorted_tupsO (k := fun v => TS.intsOf s.heap v) hl.isList (by rw [← hlen0]; simpa using hz) (fun v hv => ?_) (hn.imp (fun z => by omega) fun z v hv => ?_) fun h' d out h1 h2 k hd hn' => ?_
  · obtain ⟨t, et⟩ := e2 v hv
    have hm : (backV v, TS.intsOf s.heap v) ∈ ps := by rw [e1]; exact List.mem_map.mpr ⟨v, hv, rfl⟩
    obtain ⟨t', e', ht⟩ := hp _ hm
    subst et
    have e'' : V.ref t = V.ref t' := e'
    cases e''
    exact tupI_raw I ht
  · have hm : (backV v, TS.intsOf s.heap v) ∈ ps := by rw [e1]; exact List.mem_map.mpr ⟨v, hv, rfl⟩
    exact z _ hm
  · obtain ⟨n, hob⟩ := hn'
    have h3 : ∀ u ∈ out, ∃ a, u = Value.ref a := fun u hu => e2 u (h2.perm.mem_iff.mp hu)
    have hq : (out.map fun v => (backV v, TS.intsOf s.heap v)).Perm ps := by rw [e1]; exact h2.perm.map _
    have ez : (out.map fun v => (backV v, TS.intsOf s.heap v)).map (·.1) = out.map backV := by rw [List.map_map]; rfl
    refine ⟨.ref d, upd H d (.lst (out.map backV)), I.laid (t' := s.toks) k hd ⟨?_, out, n, vals_back h3, hob⟩, rfl, ?_⟩
    · rw [List.length_map, h2.perm.length_eq, ← hlen0]; simpa using hz
    · rw [← ez]
      exact q _ d hq (List.pairwise_map.mpr (h1.imp fun z => z)) (I.hok.fresh hd)
end
end L2
namespace Nb
open PySem PySem.Spec PyProof.Rows L2
abbrev tupI (ns : List Int) : D := .tup (ns.map D.int)
def tupsOf : List D → Option (List (List Int))
  | [] => some []
  | .tup l :: r => (intsOf l).bind fun ns => (tupsOf r).map (ns :: ·)
  | _ :: _ => none
theorem tupsOf_eq : ∀ {l : List D} {nss : List (List Int)}, tupsOf l = some nss → l = nss.map tupI
  | [], nss, e => by cases e; rfl
  | d :: l, nss, e => by
    cases d with
    | tup t =>
      simp only [tupsOf, Option.bind_eq_some_iff, Option.map_eq_some_iff] at e
      obtain ⟨ns, e1, m, e2, e3⟩ := e
      rw [← e3, tupsOf_eq e2, intsOf_eq e1]; rfl
    | _ => cases e
theorem tupsOf_map : ∀ nss : List (List Int), tupsOf (nss.map tupI) = some nss
  | [] => rfl
  | n :: ns => by simp [tupsOf, tupI, intsOf_map n, tupsOf_map ns]
theorem lexLt_anti : ∀ {a b : List Int}, HT.lexLt a b = false → HT.lexLt b a = false → a = b
  | [], [], _, _ => rfl
  | [], _ :: _, h, _ => by rw [HT.lexLt_nil_cons] at h; cases h
  | _ :: _, [], _, h => by rw [HT.lexLt_nil_cons] at h; cases h
  | x :: a, y :: b, h1, h2 => by
    rw [HT.lexLt_cons] at h1 h2
    by_cases e : x = y
    · subst e
      rw [if_pos rfl] at h1 h2
      rw [lexLt_anti h1 h2]
    · rw [if_neg e] at h1
      rw [if_neg (Ne.symm e)] at h2
      have a1 := of_decide_eq_false h1
      have a2 := of_decide_eq_false h2
      exact absurd (Int.le_antisymm (Int.not_lt.mp a2) (Int.not_lt.mp a1)) e
def sortTs (nss : List (List Int)) : List (List Int) := nss.mergeSort fun a b => !HT.lexLt b a
theorem sortTs_perm (nss : List (List Int)) : (sortTs nss).Perm nss := List.mergeSort_perm ..
theorem sortTs_pair (nss : List (List Int)) : (sortTs nss).Pairwise fun a b => HT.lexLt b a = false := by
  have h := List.pairwise_mergeSort (le := fun a b : List Int => !HT.lexLt b a) (fun a b c h1 h2 => by
    have h1' : HT.lexLt b a = false := by simpa using h1
    have h2' : HT.lexLt c b = false := by simpa using h2
    simpa using NtL.lex_tr a b c h1' h2') (fun a b => by
    cases e : HT.lexLt b a with
    | false => simp
    | true => simp [NtL.lex_asym _ _ e]) nss
  exact h.imp fun h => by simpa using h
theorem sortTs_uniq {l m : List (List Int)} (h1 : l.Perm m) (h2 : l.Pairwise fun a b => HT.lexLt b a = false) (h3 : m.Pairwise fun a b => HT.lexLt b a = false) : l = m := h1.eq_of_pairwise (fun a b _ _ h h' => lexLt_anti h' h) h2 h3
def fSortedT (fr : Bool) : FM := fun ds h => match ds with
  | [d] => match (asL d h).bind tupsOf with
    | some nss => if nss.length < 2 ∨ nss.all (fun n => !n.isEmpty) = true then mkL fr ((sortTs nss).map tupI) h else .no
    | none => .no
  | _ => .no
theorem RelL.tups {K : PySem.W.Frag} {cl : Nat → Addr → Prop} {H : Hp} {mu : List Addr} : ∀ {nss : List (List Int)} {vs : List V}, RelL K cl H mu (nss.map tupI) vs → ∃ ps : List (V × List Int), ps.map (·.1) = vs ∧ ps.map (·.2) = nss ∧ ∀ p ∈ ps, RelD K cl H mu (tupI p.2) p.1
  | [], _, .nil => ⟨[], rfl, rfl, fun _ z => by simp at z⟩
  | ns :: nss, _, .cons h _ r => by
    obtain ⟨ps, e1, e2, e3⟩ := RelL.tups r
    refine ⟨(_, ns) :: ps, by rw [List.map_cons, e1], by rw [List.map_cons, e2], fun p hp => ?_⟩
    rcases List.mem_cons.mp hp with z | z
    · subst z; exact h
    · exact e3 p z
theorem RelL.of_tups {K : PySem.W.Frag} {cl : Nat → Addr → Prop} {H : Hp} {mu : List Addr} : ∀ {ps : List (V × List Int)}, (∀ p ∈ ps, RelD K cl H mu (tupI p.2) p.1) → RelL K cl H mu ((ps.map (·.2)).map tupI) (ps.map (·.1))
  | [], _ => .nil
  | p :: ps, h => .cons (h p List.mem_cons_self) rfl (RelL.of_tups fun q hq => h q (List.mem_cons_of_mem _ hq))
theorem sim_sortedT {C : Ctx} {fr : Bool} : Sim1 C (fSortedT fr) (rSortTs C.K) := by
  intro H mu h ds vs Q E rp rd p
  unfold fSortedT at p
  split at p
  · cases rd with
    | cons rd rt =>
    cases rt
    split at p
    · rename_i nss e
      split at p
      · rename_i hcond
        rw [Option.bind_eq_some_iff] at e
        obtain ⟨l, e1, e2⟩ := e
        obtain ⟨a, ws, q1, q2, q3, q4⟩ := asL_of rp rd e1
        rw [tupsOf_eq e2] at q3 q4
        obtain ⟨ps, z1, z2, z3⟩ := RelL.tups q3
        subst q1
        have hpl : ps.length = nss.length := by rw [← z2, List.length_map]
        refine ⟨a, ps, rfl, by rw [z1]; exact q2, fun p hp => ?_, hcond.imp (fun z => by omega) (fun z p hp => ?_), fun qs p' hq hs hn => ?_⟩
        · have r := z3 p hp
          revert r
          generalize p.1 = pv
          intro r
          cases r with
          | tup e2 _ e3 =>
            rw [e3.ints] at e2
            exact ⟨_, rfl, e2.sq⟩
        · have hm : p.2 ∈ nss := by rw [← z2]; exact List.mem_map.mpr ⟨p, hp, rfl⟩
          have := List.all_eq_true.mp z _ hm
          intro hh
          rw [hh] at this
          simp at this
        · have e3 : qs.map (·.2) = sortTs nss := by
            refine sortTs_uniq ?_ (List.pairwise_map.mpr hs) (sortTs_pair nss)
            rw [← z2]
            exact (hq.map _).trans (sortTs_perm _).symm
          have rl := RelL.of_tups (K := C.K) (cl := C.cl) (H := H) (mu := mu) (ps := qs) fun p hp => z3 p (hq.mem_iff.mp hp)
          rw [e3] at rl
          exact post_mkL rp rl (by rw [List.length_map, (sortTs_perm nss).length_eq]; simpa using q4) hn p
      · exact p.elim
    · exact p.elim
  · exact p.elim
end Nb
end
section
set_option Elab.async false
set_option linter.all false
set_option maxRecDepth 100000
set_option maxHeartbeats 1000000
namespace HT
open PySem PyProof.Rows
section
variable {prog : Program} {w : World} {A : Around} {E : Value → Shared → Prop} {s : Shared}
theorem sliceApplied_rev {sl : Addr} {vl vu vs : Value} {n : Nat} {Q : Int × Int × Nat → Shared → Prop} (hs : s.heap.IsSliceOf sl vl vu vs) (pl : IsPart vl none) (pu : IsPart vu none) (ps : IsPart vs (some (-1)))
    (h : Q (((n : Int) - 1), -1, n) s) : wpAny (model prog w) A (Builtin.Slice.sliceApplied (.ref sl) (pure (n : Int))) Q E s := by
  obtain ⟨os, hos, hcs, hds⟩ := id hs
  unfold Builtin.Slice.sliceApplied Builtin.Slice.sliceFields
  refine wpAny_bind (wpAny_bind (wpAny_field hos hds (x := vl) rfl (wpAny_bind (wpAny_field hos hds (x := vu) rfl (wpAny_bind (wpAny_field hos hds (x := vs) rfl (wpAny_pure ?_)))))))
  refine wpAny_bind (slicePart_ ps ?_)
  show wpAny _ _ (if ((-1 : Int) == 0) = true then _ else _) _ _ s
  rw [if_neg (by decide)]
  refine wpAny_bind (slicePart_ pl (wpAny_bind (slicePart_ pu (wpAny_bind (wpAny_pure ?_)))))
  show wpAny _ _ (match Builtin.Slice.sliceAdjust none none (-1) (n : Int) with | (lo, hi) => pure (lo, (-1 : Int), Builtin.Slice.slicePlaces lo hi (-1))) _ _ s
  have e1 : Builtin.Slice.sliceAdjust none none (-1) (n : Int) = ((n : Int) - 1, -1) := rfl
  rw [e1]
  show wpAny _ _ (pure (((n : Int) - 1), (-1 : Int), Builtin.Slice.slicePlaces ((n : Int) - 1) (-1) (-1))) _ _ s
  have e2 : Builtin.Slice.slicePlaces ((n : Int) - 1) (-1) (-1) = n := by
    unfold Builtin.Slice.slicePlaces
    rw [if_neg (by decide), show (-(-1 : Int)) = 1 from rfl, Int.ediv_one]
    split <;> omega
  rw [e2]
  exact wpAny_pure h
theorem fm_congr {α β : Type} (f g : α → Option β) : ∀ l : List α, (∀ x ∈ l, f x = g x) → l.filterMap f = l.filterMap g
  | [], _ => rfl
  | x :: l, h => by rw [List.filterMap_cons, List.filterMap_cons, h x List.mem_cons_self, fm_congr f g l fun y hy => h y (List.mem_cons_of_mem _ hy)]
theorem pick_rev (xs : Array Value) : ((List.range xs.size).filterMap fun (m : Nat) => xs[(((xs.size : Int) - 1) + (m : Int) * (-1)).toNat]?).toArray = xs.toList.reverse.toArray := by
  congr 1
  apply List.ext_getElem?
  intro i
  have e : ((List.range xs.size).filterMap fun (m : Nat) => xs[(((xs.size : Int) - 1) + (m : Int) * (-1)).toNat]?) = (List.range xs.size).filterMap fun m => xs.toList.reverse[m]? := by
    refine fm_congr _ _ _ fun m hm => ?_
    have hm' : m < xs.size := List.mem_range.mp hm
    rw [List.getElem?_reverse (by simpa using hm')]
    have e2 : (((xs.size : Int) - 1) + (m : Int) * (-1)).toNat = xs.toList.length - 1 - m := by simp only [Array.length_toList]; omega
    rw [e2, Array.getElem?_toList]
  rw [e]
  have e3 : (List.range xs.size).filterMap (fun m => xs.toList.reverse[m]?) = xs.toList.reverse := by
    have := pick_run xs.toList.reverse.toArray 0 xs.size
    rw [List.filterMap_map] at this
    have e4 : (List.range xs.size).filterMap (fun m => xs.toList.reverse[m]?) = xs.toList.reverse.take xs.size := by
      refine Eq.trans ?_ (by simpa using this)
      refine fm_congr _ _ _ fun m _ => ?_
      simp
    rw [e4, List.take_of_length_le (by simp)]
  rw [e3]
theorem getItem_tuple_rev {t sl : Addr} {items : Array Value} {vl vu vs : Value} {Q : Value → Shared → Prop} (ht : IsTup s.heap t items) (hs : s.heap.IsSliceOf sl vl vu vs) (pl : IsPart vl none) (pu : IsPart vu none) (ps : IsPart vs (some (-1)))
    (h : Q (.ref s.heap.objs.size) { s with heap := s.heap.push { cls := .type "tuple", data := .seq items.toList.reverse.toArray } })
    (hsz : items.size ≤ sizeLine) : wpAny (model prog w) A (getItem (.ref t) (.ref sl)) Q E s := by
  have htake : sizeOk (.seq items.toList.reverse.toArray) := by
    show items.toList.reverse.toArray.size ≤ sizeLine
    rw [List.size_toArray, List.length_reverse, Array.length_toList]
    exact hsz
  obtain ⟨os, hos, hcs, hds⟩ := id hs
  have hTs : s.TypeIs (.ref sl) "slice" := ⟨os, hos, hcs⟩
  unfold getItem
  try with_reducible refine wpAny_holding ?_
  first | refine wpAny_bind (wpAny_pure ?_) | skip
  refine wpAny_bind (wpAny_sequenceKey ht.typeIs (by decide) ?_)
  refine wpAny_bind (wpAny_callSpecial?_slot (name := Str.ofString "__getitem__") ht.typeIs PyProof.Rows.slot_tuple_getitem
    (wpAny_call_entry PyProof.Rows.slot_tuple_getitem ht.typeIs entry_tuple_getitem ?_ (args_tuple_getitem _ _)))
  show wpAny _ _ (Builtin.Tuple.tupleItemsOf (.ref t) >>= _) _ _ s
  refine wpAny_bind (tupleItemsOf_ ht ?_)
  refine wpAny_bind (wpAny_typeOf hTs ?_)
  rw [if_pos (by decide)]
  refine wpAny_bind (sliceApplied_rev hs pl pu ps ?_)
  have hno : ¬ ((((items.size : Int) - 1) == 0 && (-1 : Int) == 1 && items.size == items.size) = true) := by
    intro q
    rw [Bool.and_eq_true, Bool.and_eq_true] at q
    exact absurd q.1.2 (by decide)
  show wpAny _ _ (if (((items.size : Int) - 1) == 0 && (-1 : Int) == 1 && items.size == items.size) = true then _ else _) _ _ s
  rw [if_neg hno, pick_rev]
  first
    | exact wpAny_bind (m := Builtin.Tuple.tupleExact _) (wpAny_newObj_type (wpAny_pure ⟨_, rfl, wpAny_pure h⟩) htake)
    | exact wpAny_bind (m := Builtin.Tuple.tupleExact _) (wpAny_newObj_type (wpAny_bind (wpAny_pure (wpAny_pure ⟨_, rfl, wpAny_pure h⟩))) htake)
end
end HT
namespace L2
open PySem PySem.Spec PyProof.Rows
/-- xs[::-1] of a list or a tuple -/
def tRevA (K : PySem.W.Frag) (te : TE) : TE := fun σ H Q => te σ H fun x H1 => ∃ a xs, x = .ref a ∧ ((SqL K H1 a xs ∧ ∀ p, H1 p = none → Q (.ref p) (upd H1 p (.lst xs.reverse))) ∨ (SqT K H1 a xs ∧ ∀ p, H1 p = none → Q (.ref p) (upd H1 p (.tup xs.reverse))))
theorem pe_revA {X : Cx} {e : Expr} {te : TE} {k : Nat} {p1 p2 p3 pos : Pos} (he : PE X e te) : PE X (.Subscript e (.Slice none none (some (.UnaryOp .USub (.Constant (.int 1) k p1) p2)) p3) pos) (tRevA X.K te) := by
  refine ⟨fun pins s σ H Q I h => ?_⟩
  refine Subscript_ (thn (he.run pins s σ H _ I h) fun v s1 ⟨x, H1, I1, r1, q1⟩ => ?_)
  obtain ⟨a, xs, ex, hx⟩ := q1
  subst ex
  cases r1
  have hst : PO X (some (.UnaryOp .USub (.Constant (.int 1) k p1) p2)) (tPart (tUn (rU fun i => .int (-i)) (tC (.int 1)))) := po_some (pe_un un_neg pe_int)
  refine wpAny_Slice (thn (po_none.run pins s1 σ H1 (fun o H2 => o = none ∧ H2 = H1) I1 ⟨rfl, rfl⟩) fun vl s2 ⟨l, H2, I2, pl, el, e2⟩ => ?_)
  subst el e2
  refine thn (po_none.run pins s2 σ H2 (fun o H3 => o = none ∧ H3 = H2) I2 ⟨rfl, rfl⟩) fun vu s3 ⟨u, H3, I3, pu, eu, e3⟩ => ?_
  subst eu e3
  refine thn (hst.run pins s3 σ H3 (fun o H4 => o = some (-1) ∧ H4 = H3) I3 ⟨1, rfl, -1, rfl, rfl, rfl⟩) fun vs s4 ⟨o, H4, I4, ps, eo, e4⟩ => ?_
  subst eo e4
  have I5 : Inv X pins σ H4 { s4 with heap := s4.heap.push { cls := .type "slice", data := .fields #[vl, vu, vs] } } := I4.kept (t' := s4.toks) fun b ob q => Heap.get?_push_of_some _ q
  show wpAny (model X.prog X.w) X.A (subscriptTail e (.Slice none none (some (.UnaryOp .USub (.Constant (.int 1) k p1) p2)) p3) (.ref a) (.ref s4.heap.objs.size)) (EP X pins σ Q) X.xe { s4 with heap := s4.heap.push { cls := .type "slice", data := .fields #[vl, vu, vs] } }
  rcases hx with ⟨hx, q⟩ | ⟨hx, q⟩
  · obtain ⟨its, r, ht, hz⟩ := I5.list hx
    have hlen := r.length
    refine tail_any (ops := [.ref a, .ref s4.heap.objs.size]) ht.isList.typeIs (PySem.slot_list_getitem.lookup) ?_ (by with_unfolding_all rfl)
    refine wpAny_getItem_list_slice ht.isList (Heap.IsSliceOf.new _ vl vu vs) pl pu ps (by decide) ?_ (by rw [List.size_toArray]; omega)
    rw [PySem.W.krv_pick]
    refine ⟨.ref _, _, I5.laid (t' := s4.toks) (o := .lst xs.reverse) (fun b ob q => Heap.get?_push_of_some _ q) (Nat.le_refl _) ?_, rfl, q _ (I5.hok.fresh (Nat.le_refl _))⟩
    exact ⟨by rw [List.length_reverse]; exact hz, _, 0, r.reverse, Heap.get?_push_size _ rfl⟩
  · obtain ⟨its, r, ht, hz⟩ := I5.tuple hx
    have hlen := r.length
    refine tail_any (ops := [.ref a, .ref s4.heap.objs.size]) ht.typeIs (PyProof.Rows.slot_tuple_getitem.lookup) ?_ (by with_unfolding_all rfl)
    refine HT.getItem_tuple_rev (items := its.toArray) ht (Heap.IsSliceOf.new _ vl vu vs) pl pu ps ?_ (by rw [List.size_toArray]; omega)
    refine ⟨.ref _, _, I5.laid (t' := s4.toks) (o := .tup xs.reverse) (fun b ob q => Heap.get?_push_of_some _ q) (Nat.le_refl _) ?_, rfl, q _ (I5.hok.fresh (Nat.le_refl _))⟩
    exact ⟨by rw [List.length_reverse]; exact hz, _, r.reverse, IsTup.new _ _⟩
end L2
namespace Nb
open PySem PySem.Spec PyProof.Rows L2
noncomputable def mRg1 (m : EM) : M (Int × Int) := fun env h => (m env h).bind fun x h1 => match x with
  | .int j => if okRng 0 j = true then .ok (0, j) h1 else .no
  | _ => .no
noncomputable def mRg2 (m m2 : EM) : M (Int × Int) := fun env h => (m env h).bind fun x h1 => (m2 env h1).bind fun y h2 => match x, y with
  | .int i, .int j => if okRng i j = true then .ok (i, j) h2 else .no
  | _, _ => .no
def eTupRg (r : M (Int × Int)) : EM := fun env h => (r env h).bind fun x h1 => .ok (.tup (rngD x.1 x.2)) h1
def eLstRg (fr : Bool) (r : M (Int × Int)) : EM := fun env h => (r env h).bind fun x h1 => mkL fr (rngD x.1 x.2) h1
/-- the reading of a range as an argument -/
def tRg (C : Ctx) (W : WX) (r : M (Int × Int)) : L2.St → Hp → (Int → Int → Hp → Prop) → Prop := fun s H Q => ∃ mu env h, SR C mu env h s H ∧ Post C H mu (fun _ _ (a : Int × Int) (b : Int × Int) => a = b ∧ okRng a.1 a.2 = true) (r env h) (fun p H' => Q p.1 p.2 H') fun c d H' => W c d s H'
theorem PRg.imp {X : Cx} {e : Expr} {t t' : L2.St → Hp → (Int → Int → Hp → Prop) → Prop} (h : PRg X e t) (i : ∀ s H Q, t' s H Q → t s H Q) : PRg X e t' := fun pins s σ H Q I q => h pins s σ H Q I (i σ H Q q)
theorem rel_rng {K : PySem.W.Frag} {cl : Nat → Addr → Prop} {H : Hp} {mu : List Addr} (lo hi : Int) : RelL K cl H mu (rngD lo hi) (rgV lo hi) := by
  have e1 : rngD lo hi = ((List.range (hi - lo).toNat).map fun i => lo + ((i : Nat) : Int)).map D.int := by simp [rngD]
  have e2 : rgV lo hi = ((List.range (hi - lo).toNat).map fun i => lo + ((i : Nat) : Int)).map V.int := by simp [rgV]
  rw [e1, e2]
  exact RelL.of_ints _
section
variable {C : Ctx} {W : WX} {X : Cx} {pos p p2 apos cpos : Pos} {a b e : Expr} {es : List Expr} {m m2 : EM} {ml : M (List D)} {rg : M (Int × Int)}
theorem dr_1 (hg : Gl X "range") (hm : X.mg "range" = none) (ha : PE X a (tE C W m)) (na : starEach [a] X.env = (false, eval a X.env) :: starEach [] X.env) : PRg X (.Call (.Name "range" p) [a] [] pos) (tRg C W (mRg1 m)) := PRg.imp (prg_1 hg hm ha na) fun s H Q ⟨mu, env, h, sr, p⟩ => by
  refine tE_bind (m := m) sr p fun v H1 mu1 d h1 sr1 e1 rd1 p1 => ?_
  split at p1
  · split at p1
    · rename_i z
      cases rd1
      exact ⟨_, rfl, p1 mu1 (0, _) H1 .refl sr1.hp ⟨rfl, z⟩⟩
    · exact p1.elim
  · exact p1.elim
theorem dr_2 (hg : Gl X "range") (hm : X.mg "range" = none) (ha : PE X a (tE C W m)) (hb : PE X b (tE C W m2)) (na : starEach [a, b] X.env = (false, eval a X.env) :: starEach [b] X.env)
    (nb : starEach [b] X.env = (false, eval b X.env) :: starEach [] X.env) (hp : (backTo pos (starEach [b] X.env)).any (·.1) = false) : PRg X (.Call (.Name "range" p) [a, b] [] pos) (tRg C W (mRg2 m m2)) := PRg.imp (prg_2 hg hm ha hb na nb hp) fun s H Q ⟨mu, env, h, sr, p⟩ => by
  refine tE_bind (m := m) sr p fun v H1 mu1 d h1 sr1 e1 rd1 p1 => tE_bind (m := m2) sr1 p1 fun v2 H2 mu2 d2 h2 sr2 e2 rd2 p2 => ?_
  split at p2
  · split at p2
    · rename_i z
      cases rd1; cases rd2
      exact ⟨_, _, rfl, rfl, p2 mu2 (_, _) H2 .refl sr2.hp ⟨rfl, z⟩⟩
    · exact p2.elim
  · exact p2.elim
theorem tRg_bind {s : L2.St} {H : Hp} {mu : List Addr} {env : Env} {h : Hpp} {k : Int × Int → Hpp → R D} {Q : VK} {Q' : Int → Int → Hp → Prop} (sr : SR C mu env h s H) (p : Post C H mu (RlD C) ((rg env h).bind k) Q fun c d H' => W c d s H')
    (i : ∀ (x : Int × Int) H1 mu1 h1, SR C mu1 env h1 s H1 → okRng x.1 x.2 = true → Post C H1 mu1 (RlD C) (k x h1) Q (fun c d H' => W c d s H') → Q' x.1 x.2 H1) : tRg C W rg s H Q' :=
  ⟨mu, env, h, sr, (Post.bind (Rl := fun _ _ (a : Int × Int) (b : Int × Int) => a = b ∧ okRng a.1 a.2 = true) p).mono (fun v H1 ⟨mu1, d, h1, e, rp, rd, q⟩ => by
    obtain ⟨rd1, rd2⟩ := rd
    subst rd1
    exact i _ H1 mu1 h1 (sr.to e rp) rd2 q) fun _ _ _ z => z⟩
theorem rgOk_of {lo hi : Int} (h : okRng lo hi = true) : RgOk lo hi := by
  obtain ⟨a, b, c, d, e⟩ := okRng_of h
  have e' : (hi - lo).toNat ≤ 16777216 := e
  exact ⟨a, b, c, d, by omega⟩
theorem de_tupRg (hc : X.calm = true) (hg : Gl X "tuple") (hm : X.mg "tuple" = none) (he : PRg X e (tRg C W rg)) (na : starEach [e] X.env = (false, eval e X.env) :: starEach [] X.env) : PE X (.Call (.Name "tuple" p) [e] [] pos) (tE C W (eTupRg rg)) := PE.imp (pe_tupRg hc hg hm he na) fun s H Q ⟨mu, env, h, sr, p⟩ => by
  refine tRg_bind (rg := rg) sr p fun x H1 mu1 h1 sr1 ok p1 => ⟨rgOk_of ok, fun q hq => ?_⟩
  exact post_tup sr1.hp (rel_rng _ _) (by rw [rngD_len]; exact (okRng_of ok).2.2.2.2) hq p1
theorem de_lstRg (fr : Bool) (hc : X.calm = true) (hg : Gl X "list") (hm : X.mg "list" = none) (he : PRg X e (tRg C W rg)) (na : starEach [e] X.env = (false, eval e X.env) :: starEach [] X.env) : PE X (.Call (.Name "list" p) [e] [] pos) (tE C W (eLstRg fr rg)) := PE.imp (pe_listRg hc hg hm he na) fun s H Q ⟨mu, env, h, sr, p⟩ => by
  refine tRg_bind (rg := rg) sr p fun x H1 mu1 h1 sr1 ok p1 => ⟨rgOk_of ok, fun q hq => ?_⟩
  exact post_mkL sr1.hp (rel_rng _ _) (by rw [rngD_len]; exact (okRng_of ok).2.2.2.2) hq p1

def pNo : M (Option Int) := fun _ h => .ok none h
def pSo (m : EM) : M (Option Int) := fun env h => (m env h).bind fun x h1 => match x with
  | .int i => .ok (some i) h1
  | _ => .no
def tO (C : Ctx) (W : WX) (r : M (Option Int)) : TO := fun s H Q => ∃ mu env h, SR C mu env h s H ∧ Post C H mu (fun _ _ (a b : Option Int) => a = b) (r env h) Q fun c d H' => W c d s H'
theorem PO.imp {X : Cx} {e : Option Expr} {t t' : TO} (h : PO X e t) (i : ∀ s H Q, t' s H Q → t s H Q) : PO X e t' := ⟨fun pins s σ H Q I q => h.run pins s σ H Q I (i σ H Q q)⟩
theorem dp_no : PO X none (tO C W pNo) := PO.imp po_none fun s H Q ⟨mu, env, h, sr, p⟩ => p mu none H .refl sr.hp rfl
theorem dp_so (ha : PE X a (tE C W m)) : PO X (some a) (tO C W (pSo m)) := PO.imp (po_some ha) fun s H Q ⟨mu, env, h, sr, p⟩ => by
  refine tE_bind (m := m) sr p fun v H1 mu1 d h1 sr1 e1 rd1 p1 => ?_
  split at p1
  · cases rd1
    exact ⟨_, rfl, p1 mu1 _ H1 .refl sr1.hp rfl⟩
  · exact p1.elim
theorem tO_bind {r : M (Option Int)} {s : L2.St} {H : Hp} {mu : List Addr} {env : Env} {h : Hpp} {k : Option Int → Hpp → R D} {Q : VK} {Q' : Option Int → Hp → Prop} (sr : SR C mu env h s H) (p : Post C H mu (RlD C) ((r env h).bind k) Q fun c d H' => W c d s H')
    (i : ∀ (x : Option Int) H1 mu1 h1, SR C mu1 env h1 s H1 → Ext H mu H1 mu1 → Post C H1 mu1 (RlD C) (k x h1) Q (fun c d H' => W c d s H') → Q' x H1) : tO C W r s H Q' :=
  ⟨mu, env, h, sr, (Post.bind (Rl := fun _ _ (a b : Option Int) => a = b) p).mono (fun v H1 ⟨mu1, d, h1, e, rp, rd, q⟩ => by
    subst rd
    exact i _ H1 mu1 h1 (sr.to e rp) e q) fun _ _ _ z => z⟩
def cutL {α : Type} (l : List α) (lo hi : Option Int) : List α := (l.drop (HT.sIx l.length 0 lo)).take (HT.sIx l.length l.length hi - HT.sIx l.length 0 lo)
def fSl (fr : Bool) (d : D) (lo hi : Option Int) (h : Hpp) : R D := match d with
  | .tup l => .ok (.tup (cutL l lo hi)) h
  | _ => match asL d h with
    | some l => mkL fr (cutL l lo hi) h
    | none => .no
def eSl (fr : Bool) (m : EM) (r r2 : M (Option Int)) : EM := fun env h => (m env h).bind fun x h1 => (r env h1).bind fun lo h2 => (r2 env h2).bind fun hi h3 => fSl fr x lo hi h3
theorem cut_rel {K : PySem.W.Frag} {cl : Nat → Addr → Prop} {H : Hp} {mu : List Addr} {l : List D} {vs : List V} {lo hi : Option Int} (r : RelL K cl H mu l vs) : RelL K cl H mu (cutL l lo hi) (cutV vs lo hi) := by
  unfold cutL cutV
  rw [← r.len]
  exact (r.drop _).take _
theorem cutL_length {α : Type} (l : List α) (lo hi : Option Int) : (cutL l lo hi).length ≤ l.length := by
  unfold cutL
  rw [List.length_take, List.length_drop]
  omega
theorem fSl_list {fr : Bool} {d : D} {lo hi : Option Int} {H : Hp} {mu : List Addr} {h : Hpp} {x : V} {Q : VK} {E : XK} (rp : RepH C.K C.cl H mu h) (rd : RelD C.K C.cl H mu d x) (p : Post C H mu (RlD C) (match asL d h with
    | some l => mkL fr (cutL l lo hi) h
    | none => .no) Q E) : rSlL C.K x lo hi H Q := by
  split at p
  · rename_i l hs
    obtain ⟨a, vs, e1, e2, e3, e4⟩ := asL_of rp rd hs
    exact ⟨a, vs, e1, e2, fun q hq => post_mkL rp (cut_rel e3) (Nat.le_trans (cutL_length _ _ _) e4) hq p⟩
  · exact p.elim
theorem de_slice (fr : Bool) {lo hi : Option Expr} {r r2 : M (Option Int)} (hK : X.K = C.K) (he : PE X e (tE C W m)) (hl : PO X lo (tO C W r)) (hu : PO X hi (tO C W r2)) : PE X (.Subscript e (.Slice lo hi none p2) pos) (tE C W (eSl fr m r r2)) :=
  PE.imp (pe_slice (SlR.or (sl_list (X := X)) sl_tupA) he hl hu) fun s H Q ⟨mu, env, h, sr, p⟩ => by
    refine tE_bind (m := m) sr p fun v H1 mu1 d h1 sr1 e1 rd1 p1 => tO_bind (r := r) sr1 p1 fun x H2 mu2 h2 sr2 e2 p2 => tO_bind (r := r2) sr2 p2 fun y H3 mu3 h3 sr3 e3 p3 => ?_
    rw [hK]
    have rd3 := (rd1.ext e2).ext e3
    cases d with
    | tup l =>
      right
      cases rd3 with
      | @tup _ a vs z1 z3 z2 =>
        refine ⟨a, vs, rfl, z1.sq, fun hw => ?_, fun hw q hq => ?_⟩
        · have ec : cutL l x y = l := by
            unfold cutL
            have hln := z2.len
            rw [← hln] at hw
            rw [hw.1, hw.2]; simp
          have p3' : Post C H3 mu3 (RlD C) (.ok (.tup (cutL l x y)) h3) Q fun c d H' => W c d s H' := p3
          rw [ec] at p3'
          exact p3' mu3 _ H3 .refl sr3.hp (.tup z1 z3 z2)
        · exact post_tup sr3.hp (cut_rel z2) (Nat.le_trans (cutL_length _ _ _) z3) hq p3
    | lst l => exact .inl (fSl_list sr3.hp rd3 p3)
    | frl l => exact .inl (fSl_list sr3.hp rd3 p3)
    | ref l => exact .inl (fSl_list sr3.hp rd3 p3)
    | _ => exact p3.elim
def fRev (fr : Bool) (d : D) (h : Hpp) : R D := match d with
  | .tup l => .ok (.tup l.reverse) h
  | _ => match asL d h with
    | some l => mkL fr l.reverse h
    | none => .no
def eRev (fr : Bool) (m : EM) : EM := fun env h => (m env h).bind fun x h1 => fRev fr x h1
theorem de_rev (fr : Bool) {k : Nat} {p1 p3 : Pos} (hK : X.K = C.K) (he : PE X e (tE C W m)) : PE X (.Subscript e (.Slice none none (some (.UnaryOp .USub (.Constant (.int 1) k p1) p2)) p3) pos) (tE C W (eRev fr m)) := PE.imp (pe_revA he) fun s H Q ⟨mu, env, h, sr, p⟩ => by
  refine tE_bind (m := m) sr p fun v H1 mu1 d h1 sr1 e1 rd1 p1 => ?_
  rw [hK]
  have lst : ∀ {d : D}, RelD C.K C.cl H1 mu1 d v → Post C H1 mu1 (RlD C) (match asL d h1 with | some l => mkL fr l.reverse h1 | none => .no) Q (fun c d H' => W c d s H') → ∃ a xs, v = .ref a ∧ SqL C.K H1 a xs ∧ ∀ p, H1 p = none → Q (.ref p) (upd H1 p (.lst xs.reverse)) := fun {d} rd p1 => by
    split at p1
    · rename_i l hs
      obtain ⟨a, vs, e1, e2, e3, e4⟩ := asL_of sr1.hp rd hs
      exact ⟨a, vs, e1, e2, fun q hq => post_mkL sr1.hp e3.rev (by simpa using e4) hq p1⟩
    · exact p1.elim
  cases d with
  | tup l =>
    cases rd1 with
    | @tup _ a vs z1 z3 z2 => exact ⟨a, vs, rfl, .inr ⟨z1.sq, fun q hq => post_tup sr1.hp z2.rev (by simpa using z3) hq p1⟩⟩
  | lst l => obtain ⟨a, xs, q1, q2, q3⟩ := lst rd1 p1; exact ⟨a, xs, q1, .inl ⟨q2, q3⟩⟩
  | frl l => obtain ⟨a, xs, q1, q2, q3⟩ := lst rd1 p1; exact ⟨a, xs, q1, .inl ⟨q2, q3⟩⟩
  | ref l => obtain ⟨a, xs, q1, q2, q3⟩ := lst rd1 p1; exact ⟨a, xs, q1, .inl ⟨q2, q3⟩⟩
  | _ => exact p1.elim

abbrev FMt := D → List D → Hpp → R D
def Sim3 (C : Ctx) (T : String) (f : FMt) (r : V → List V → Hp → VK → Prop) : Prop := ∀ (H : Hp) (mu : List Addr) (h : Hpp) (d : D) (ds : List D) (x : V) (vs : List V) (Q : VK) (E : XK), RepH C.K C.cl H mu h → RelD C.K C.cl H mu d x → RelA C H mu ds vs → Post C H mu (RlD C) (f d ds h) Q E → r x vs H Q
def eMt (m : EM) (ml : M (List D)) (f : FMt) : EM := fun env h => (m env h).bind fun x h1 => match asL x h1 with
  | none => .no
  | some _ => (ml env h1).bind fun l h2 => f x l h2
def cellOf (d : D) (h : Hpp) : Option (Nat × List D) := match d with
  | .ref n => match h[n]? with
    | some (.lst l) => some (n, l)
    | _ => none
  | _ => none
theorem cellOf_rel {H : Hp} {mu : List Addr} {h : Hpp} {d : D} {x : V} {n : Nat} {l : List D} (rp : RepH C.K C.cl H mu h) (rd : RelD C.K C.cl H mu d x) (e : cellOf d h = some (n, l)) : ∃ a vs, x = .ref a ∧ mu[n]? = some a ∧ H a = some (.lst vs) ∧ l.length ≤ LINE ∧ RelL C.K C.cl H mu l vs := by
  cases d with
  | ref n' =>
    simp only [cellOf] at e
    split at e
    · rename_i l' hh
      cases e
      cases rd with
      | @ref _ a hn =>
        obtain ⟨vs, w, z, q⟩ := rp.cellAt hn hh
        exact ⟨a, vs, rfl, hn, w, z, q⟩
    · cases e
  | _ => cases e
theorem post_put {H : Hp} {mu : List Addr} {h : Hpp} {n : Nat} {a : Addr} {l : List D} {vs vs0 : List V} {d : D} {v : V} {Q : VK} {E : XK} (rp : RepH C.K C.cl H mu h) (hn : mu[n]? = some a) (h0 : H a = some (.lst vs0)) (rl : RelL C.K C.cl H mu l vs) (hz : l.length ≤ LINE)
    (rd : RelD C.K C.cl H mu d v) (p : Post C H mu (RlD C) (.ok d (h.set n (.lst l))) Q E) : Q v (upd H a (.lst vs)) := by
  have x := Ext.put (H := H) (mu := mu) (o := .lst vs) (List.mem_of_getElem? hn)
  exact p mu v _ x (rp.put hn h0 (fun x => nofun) (by nofun) ⟨vs, upd_same, hz, rl.ext x⟩) (rd.ext x)
def fAppend : FMt := fun d ds h => match cellOf d h, ds with
  | some (n, l), [y] => if (!y.isRef && decide (l.length < LINE)) = true then .ok .non (h.set n (.lst (l ++ [y]))) else .no
  | _, _ => .no
def fExtend : FMt := fun d ds h => match cellOf d h, ds with
  | some (n, l), [y] => match asN y h with
    | some m => if l.length + m.length ≤ LINE then .ok .non (h.set n (.lst (l ++ m))) else .no
    | none => .no
  | _, _ => .no
def fPop : FMt := fun d ds h => match cellOf d h, ds with
  | some (n, l), [] => match l[l.length - 1]? with
    | some y => .ok y (h.set n (.lst l.dropLast))
    | none => .no
  | _, _ => .no
theorem RelL.dropLast {K : PySem.W.Frag} {cl : Nat → Addr → Prop} {H : Hp} {mu : List Addr} {l : List D} {vs : List V} (r : RelL K cl H mu l vs) : RelL K cl H mu l.dropLast vs.dropLast := by
  rw [List.dropLast_eq_take, List.dropLast_eq_take, ← r.len]
  exact r.take _
theorem sim_append {T : String} : Sim3 C T fAppend rAppend := by
  intro H mu h d ds x vs Q E rp rd ra p
  unfold fAppend at p
  split at p
  · rename_i n l y e
    split at p
    · rename_i hc
      rw [Bool.and_eq_true, decide_eq_true_eq, Bool.not_eq_true'] at hc
      obtain ⟨a, ws, e1, e2, e3, e4, e5⟩ := cellOf_rel rp rd e
      cases ra with
      | @cons _ v _ _ r rr =>
        cases rr
        have sl : sizeLine = LINE := sizeLine_eq
        exact ⟨a, ws, v, e1, rfl, e3, by rw [sl, ← e5.len]; exact hc.2, post_put rp e2 e3 (e5.append (.cons r hc.1 .nil)) (by simp; omega) .non p⟩
    · exact p.elim
  · exact p.elim
theorem sim_extend {T : String} : Sim3 C T fExtend rExtend := by
  intro H mu h d ds x vs Q E rp rd ra p
  unfold fExtend at p
  split at p
  · rename_i n l y e
    split at p
    · rename_i m hm
      split at p
      · rename_i hc
        obtain ⟨a, ws, e1, e2, e3, e4, e5⟩ := cellOf_rel rp rd e
        cases ra with
        | cons r rr =>
          cases rr
          obtain ⟨b, zs, f1, f2, f3, f4⟩ := asN_of rp r hm
          have sl : sizeLine = LINE := sizeLine_eq
          exact ⟨a, b, ws, zs, e1, by rw [f1], e3, f2, by rw [sl, ← e5.len, ← f3.len]; exact hc, post_put rp e2 e3 (e5.append f3) (by simp; exact hc) .non p⟩
      · exact p.elim
    · exact p.elim
  · exact p.elim
theorem sim_pop {T : String} : Sim3 C T fPop rPop := by
  intro H mu h d ds x vs Q E rp rd ra p
  unfold fPop at p
  split at p
  · rename_i n l e
    split at p
    · rename_i y hy
      obtain ⟨a, ws, e1, e2, e3, e4, e5⟩ := cellOf_rel rp rd e
      cases ra
      obtain ⟨v, q1, q2, _⟩ := e5.get hy
      exact ⟨a, ws, v, e1, rfl, e3, by rw [← e5.len]; exact q1, post_put rp e2 e3 e5.dropLast (by rw [List.length_dropLast]; omega) q2 p⟩
    · exact p.elim
  · exact p.elim
theorem tyV_list {H : Hp} {mu : List Addr} {h : Hpp} {d : D} {v : V} {l : List D} (rp : RepH C.K C.cl H mu h) (rd : RelD C.K C.cl H mu d v) (e : asL d h = some l) : tyV C.K "list" v H := by
  obtain ⟨a, vs, e1, e2, _⟩ := asL_of rp rd e
  subst e1
  exact .inl ⟨rfl, vs, e2⟩
theorem de_mt0 {name : Str} {id : String} {f : FMt} {r : V → List V → Hp → VK → Prop} (hK : X.K = C.K) (slot : Slot "list" name id) (hty : typeOf (.builtin id) = pure (.type "method_descriptor")) (hm : MtR X id r) (sm : Sim3 C "list" f r) (he : PE X e (tE C W m))
    (hbase : attributeBase e name X.env (eval e X.env) = eval e X.env) (hline : (apos.endLine == cpos.line) = true) : PE X (.Call (.Attribute e name apos) [] [] cpos) (tE C W (eMt m aNil f)) := PE.imp (pe_bm0 PySem.F.plainAttrs_list slot hty hm he hbase hline) fun s H Q ⟨mu, env, h, sr, p⟩ => by
  refine tE_bind (m := m) sr p fun v H1 mu1 d h1 sr1 e1 rd1 p1 => ?_
  cases hs : asL d h1 with
  | none => rw [hs] at p1; exact p1.elim
  | some l =>
    rw [hs] at p1
    exact ⟨by rw [hK]; exact tyV_list sr1.hp rd1 hs, sm H1 mu1 h1 d [] v [] Q _ sr1.hp rd1 .nil p1⟩
theorem de_mt {name : Str} {id : String} {f : FMt} {r : V → List V → Hp → VK → Prop} (hK : X.K = C.K) (slot : Slot "list" name id) (hty : typeOf (.builtin id) = pure (.type "method_descriptor")) (hm : MtR X id r) (sm : Sim3 C "list" f r) (he : PE X e (tE C W m)) (ha : PA X (a :: es) (tA C W ml))
    (hbase : attributeBase e name X.env (eval e X.env) = eval e X.env)
    (hfew : ((backTo cpos (starEach (a :: es) X.env)).all (fun x => !x.1) && (backToKw cpos (keywordEach [] X.env)).all (fun x => x.1.isSome)
      && decide ((a :: es).length + ([] : List Keyword).length + (if ([] : List Keyword).isEmpty then 0 else 1) < 30)) = true)
    (hline : (apos.endLine == cpos.line) = true) (hs : starEach (a :: es) X.env = (false, eval a X.env) :: starEach es X.env) (hplain : (backTo cpos (starEach es X.env)).any (·.1) = false) :
    PE X (.Call (.Attribute e name apos) (a :: es) [] cpos) (tE C W (eMt m ml f)) := PE.imp (pe_bm PySem.F.plainAttrs_list slot hty hm he ha hbase hfew hline hs hplain) fun s H Q ⟨mu, env, h, sr, p⟩ => by
  refine tE_bind (m := m) sr p fun v H1 mu1 d h1 sr1 e1 rd1 p1 => ?_
  cases hs : asL d h1 with
  | none => rw [hs] at p1; exact p1.elim
  | some l =>
    rw [hs] at p1
    exact ⟨by rw [hK]; exact tyV_list sr1.hp rd1 hs, tA_bind (m := ml) sr1 p1 fun vs H2 mu2 ds h2 sr2 e2 rd2 p2 => sm H2 mu2 h2 d ds v vs Q _ sr2.hp (rd1.ext e2) rd2 p2⟩

def tyName (d : D) (h : Hpp) : Option String := match d with
  | .non => some "NoneType"
  | .bl _ => some "bool"
  | .int _ => some "int"
  | .str _ => some "str"
  | .tup _ => some "tuple"
  | .lst _ => some "list"
  | .frl _ => some "list"
  | .ref n => match h[n]? with
    | some (.lst _) => some "list"
    | _ => none
  | _ => none
theorem tyX_of {H : Hp} {mu : List Addr} {h : Hpp} {d : D} {v : V} {t : String} (rp : RepH C.K C.cl H mu h) (rd : RelD C.K C.cl H mu d v) (e : tyName d h = some t) : TyX C.K H v (.type t) := by
  cases rd with
  | non => cases e; exact .base .non
  | bl b => cases e; exact .base (.bl b)
  | int i => cases e; exact .base (.int i)
  | str x => cases e; exact .base (.str x)
  | tup q _ _ =>
    cases e
    rcases q with ⟨_, q | ⟨o, q⟩⟩ | ⟨o, its, n, q1, q2, _⟩
    · exact .base (.tup q)
    · exact .fTuple q
    · exact .kTuple q1 q2
  | lst _ q _ _ => cases e; exact .base (.lst q)
  | frl q _ _ =>
    cases e
    rcases q with ⟨_, q | ⟨o, q⟩⟩ | ⟨o, its, n, q1, q2, _⟩
    · exact .base (.lst q)
    · exact .base (.frz q)
    · exact .kList q1 q2
  | @ref n a hn =>
    simp only [tyName] at e
    split at e
    · rename_i l hh
      cases e
      obtain ⟨vs, w, _⟩ := rp.cellAt hn hh
      exact .base (.lst w)
    · cases e
  | _ => cases e
def fIsi : FM := fun ds h => match ds with
  | [d, .ty n] => match (tyName d h).bind fun t => kitB t n with
    | some b => .ok (.bl b) h
    | none => .no
  | _ => .no
theorem sim_isi : Sim1 C fIsi (rIsi C.K) := by
  intro H mu h ds vs Q E rp rd p
  unfold fIsi at p
  split at p
  · cases rd with
    | cons r1 rr =>
    cases rr with
    | cons r2 rr =>
    cases rr
    cases r2
    split at p
    · rename_i b e
      rw [Option.bind_eq_some_iff] at e
      obtain ⟨t, e1, e2⟩ := e
      exact ⟨_, _, .type t, _, b, rfl, .ty _, tyX_of rp r1 e1, kit_ty e2, p mu _ H .refl rp (.bl _)⟩
    · exact p.elim
  · exact p.elim
def kitL (t : String) : List String → Option Bool
  | [] => some false
  | n :: ns => match kitB t n with
    | some true => some true
    | some false => kitL t ns
    | none => none
theorem kitL_any {K : PySem.W.Frag} {t : String} : ∀ {ns : List String} {b : Bool}, kitL t ns = some b → PySem.W.kitAny K (.type t) (ns.map Value.type) = some b
  | [], b, e => by cases e; exact kitAny_nil
  | n :: ns, b, e => by
    unfold kitL at e
    split at e
    · rename_i z
      cases e
      exact kitAny_cons (kit_ty z) (fun q => by cases q) fun _ => rfl
    · rename_i z
      exact kitAny_cons (kit_ty z) (fun _ => kitL_any e) fun q => by cases q
    · cases e
def eIsiT (m : EM) (ns : List String) : EM := fun env h => (m env h).bind fun d h1 => match (tyName d h1).bind fun t => kitL t ns with
  | some b => .ok (.bl b) h1
  | none => .no
/-- the names of types in a display -/
def tTys : List String → TA
  | [] => tNil
  | n :: ns => tCons (tC (.ty n)) (tTys ns)
theorem tTys_run {s : L2.St} {H : Hp} : ∀ {ns : List String} {Q : List V → Hp → Prop}, Q (ns.map V.ty) H → tTys ns s H Q
  | [], Q, q => q
  | n :: ns, Q, q => by
    unfold tTys tCons tC
    exact tTys_run (ns := ns) q
theorem tys_cls : ∀ ns : List String, Paired ClsV (ns.map V.ty) (ns.map Value.type)
  | [] => .nil
  | n :: ns => .cons (.ty n) (tys_cls ns)
theorem de_isiT {ns : List String} {k : Nat} {tpos : Pos} (hK : X.K = C.K) (hg : Gl X "isinstance") (hm : X.mg "isinstance" = none) (he : PE X e (tE C W m)) (hes : PA X es (tTys ns)) (hz : ns.length ≤ LINE)
    (hs1 : starEach [e, .Tuple es k tpos] X.env = (false, eval e X.env) :: starEach [.Tuple es k tpos] X.env) (hs2 : starEach [.Tuple es k tpos] X.env = (false, eval (.Tuple es k tpos) X.env) :: starEach [] X.env)
    (hpl : (backTo pos (starEach [.Tuple es k tpos] X.env)).any (·.1) = false) : PE X (.Call (.Name "isinstance" p) [e, .Tuple es k tpos] [] pos) (tE C W (eIsiT m ns)) :=
  PE.imp (pe_callB (call_isiT (X := X)) hg hm PyProof.Rows.boot_isinstance (pa_cons he (pa_cons (pe_tup hes) pa_nil hs2) hs1) (by decide) (by decide) hs1 hpl) fun s H Q ⟨mu, env, h, sr, p⟩ => by
    refine tE_bind (m := m) sr p fun v H1 mu1 d h1 sr1 e1 rd1 p1 => tTys_run ⟨by rw [List.length_map, sizeLine_eq]; exact hz, fun q hq => ?_⟩
    rw [hK]
    split at p1
    · rename_i b e
      rw [Option.bind_eq_some_iff] at e
      obtain ⟨t, z1, z2⟩ := e
      exact ⟨v, q, _, .type t, _, b, rfl, upd_same, tys_cls ns, tyX_of (sr1.hp.nw hq) (rd1.ext (Ext.nw hq)) z1, kitL_any z2, p1 mu1 _ _ (Ext.nw hq) (sr1.hp.nw hq) (.bl _)⟩
    · exact p1.elim
theorem de_ty {x : Str} {n : String} (hg : Gl X x) (hm : X.mg x = none) (hv : bootBuiltins x = some (.type n)) (hn : x ≠ "__name__") (hd : (x == ("__debug__" : Str)) = false) : PE X (.Name x pos) (tE C W (eC (.ty n))) :=
  de_const (pe_bltn hg hm hv (show RelV (.ty n) (.type n) from rfl) hn hd) fun _ _ => .ty n
end
end Nb
end
section
set_option Elab.async false
set_option linter.all false
set_option maxRecDepth 100000
set_option maxHeartbeats 2000000
namespace PySem
namespace NEX
open PySem.W PySem.Calls PyProof.Rows Builtin Builtin.ObjectAttr
/-- own classes, then Exception's mro -/
def refsEX : List Value → Bool
  | .ref _ :: r => refsEX r
  | l => l == ESX.exTail
theorem refsEX_cases : ∀ l : List Value, refsEX l = true → (∃ c r, l = .ref c :: r ∧ refsEX r = true) ∨ l = ESX.exTail
  | [], e => .inr (beq_iff_eq.mp e)
  | .ref c :: r, e => .inl ⟨c, r, rfl, e⟩
  | .none :: _, e => .inr (beq_iff_eq.mp e)
  | .ellipsis :: _, e => .inr (beq_iff_eq.mp e)
  | .notImplemented :: _, e => .inr (beq_iff_eq.mp e)
  | .bool _ :: _, e => .inr (beq_iff_eq.mp e)
  | .int _ _ :: _, e => .inr (beq_iff_eq.mp e)
  | .float _ _ :: _, e => .inr (beq_iff_eq.mp e)
  | .str _ _ :: _, e => .inr (beq_iff_eq.mp e)
  | .bytes _ _ :: _, e => .inr (beq_iff_eq.mp e)
  | .type _ :: _, e => .inr (beq_iff_eq.mp e)
  | .builtin _ :: _, e => .inr (beq_iff_eq.mp e)
theorem refsEX_pass (self : Value) : ∀ l : List Value, refsEX l = true → refuseLoop self "__setattr__" l = pure () := by
  intro l
  induction l with
  | nil => intro e; exact absurd e (by decide)
  | cons a r ih =>
    intro e
    rcases refsEX_cases (a :: r) e with ⟨c, r', q, h⟩ | q
    · obtain ⟨rfl, rfl⟩ := List.cons.inj q
      rw [refuseLoop_ref]; exact ih h
    · rw [q]; exact F.store_Exception.passes self
theorem refsEX_contains (X : String) : ∀ l : List Value, refsEX l = true → l.contains (.type X) = ESX.exTail.contains (.type X) := by
  intro l
  induction l with
  | nil => intro e; exact absurd e (by decide)
  | cons a r ih =>
    intro e
    rcases refsEX_cases (a :: r) e with ⟨c, r', q, h⟩ | q
    · obtain ⟨rfl, rfl⟩ := List.cons.inj q
      rw [List.contains_cons, ih h]; rfl
    · rw [q]
theorem refsEX_ne {l : List Value} (e : refsEX l = true) : l.isEmpty = false := by
  cases l with
  | nil => exact absurd e (by decide)
  | cons _ _ => rfl
section
variable {prog : Program} {w : World} {A : Around} {E : Value → Shared → Prop} {R : Result → Shared → Prop} {hp : Heap} {g : Array GenState} {d : Drawn} {t : Nat} {os : OsState}
theorem osa_new {K : W.Frag} {name : Str} {tk : Tok} {v : Value} {x C : Addr} {fv : Array Value} {cd : ClassData}
    (X : K.In hp) (hx : hp.get? x = some { cls := .ref C, data := .fields fv }) (hcd : W.clsIn K C = some cd) (hm : refsEX cd.mro = true) (hh : cd.hasDict = true) (ha : W.findIn K (.ref C) name = some none)
    (hq : ∀ h' tk' dx, (∀ b o, b ≠ x → hp.get? b = some o → h'.get? b = some o) → hp.objs.size ≤ dx → dx ≠ x → h'.get? x = some { cls := .ref C, dict := some dx, data := .fields fv } →
      h'.Ns1 dx (fun y => if y = name then some v else none) → R (.ok (.ret .none)) ⟨h', g, d, tk', os⟩) :
    codeAny (model prog w) A (.call (.builtin "object.__setattr__") ⟨[.ref x, .str name tk, v], []⟩) R ⟨hp, g, d, t, os⟩ := by
  have I : W.InstAt hp x { cls := .ref C, data := .fields fv } C none := ⟨hx, rfl, rfl, trivial⟩
  have SF := F.store_object
  have ne := refsEX_ne hm
  have hob : cd.mro.contains (.type "object") = true := (refsEX_contains "object" _ hm).trans (by decide +kernel)
  have hxs : x ≠ hp.objs.size := Nat.ne_of_lt (Heap.lt_size hx)
  have sub : W.Looks (model prog w) hp (isInstance (.ref x) (.type "object")) true := I.type.andThen (W.looks_mroIn X (by unfold W.mroIn; rw [hcd, Option.bind_some, if_neg (by rw [ne]; decide), hob]))
  refine codeAny_call_builtin SF.slot.plain SF.entry (@W.check_slot (model prog w) _ _ ⟨hp, g, d, t, os⟩ "object.__setattr__" "object" "__setattr__" (.ref x) [.str name tk, v] [] _ SF.kind SF.split sub (SF.args (.ref x) (.str name tk) v) ?_)
  have hmr : W.Looks (model prog w) hp (mroOf (.ref C)) cd.mro := (W.looks_clsIn X hcd).andThen .now
  have L3 : W.Looks (model prog w) hp (storeTaker? none) none := .now
  have hcls : W.Looks (model prog w) hp (classData C) cd := W.looks_clsIn X hcd
  rw [W.osa_eq, refuse_eq]
  refine wpAny_bind (wpAny_bind (I.type.at (wpAny_bind (hmr.at ?_))))
  rw [refsEX_pass _ _ hm]
  refine wpAny_pure (wpAny_bind (I.type.at (wpAny_bind ((W.looks_findIn X ha).at (wpAny_bind (L3.at ?_))))))
  show wpAny _ _ (storeInOwnDict (.ref x) (.ref C) (.str name tk) name v false) _ _ _
  obtain ⟨nm, bs, mro, ns, qn, hd, sn, sb, ab, col, del⟩ := cd
  dsimp only at hh
  subst hh
  unfold storeInOwnDict ownDictForStores
  repeat (first | with_reducible refine HandSPX.store_in_new ?_ ?_ | with_reducible refine wpAny_loadPart_at hx ?_ | with_reducible refine hcls.at ?_ | wp_step)
  · exact ⟨_, #[], _, (Heap.get?_update_ne _ _ _ _ hxs.symm).trans (Heap.get?_push_at rfl rfl), rfl, fun e he => absurd he (by simp), fun _ => rfl⟩
  · intro h' tk' hn' hs
    have hx₁ : (hp.push { cls := .type "dict", data := .dict #[] }).get? x = some { cls := .ref C, data := .fields fv } := Heap.get?_push_of_some _ hx
    refine hq h' tk' hp.objs.size (fun b o hb ho => ?_) (Nat.le_refl _) hxs.symm ?_ hn'
    · exact (hs.2 b (Nat.ne_of_lt (Heap.lt_size ho))).trans ((Heap.get?_update_ne _ _ _ _ hb).trans (Heap.get?_push_of_some _ ho))
    · exact (hs.2 x hxs).trans (Heap.get?_update_self _ hx₁ rfl)
end
end NEX
end PySem
namespace L2
open PySem PySem.Spec PyProof.Rows
/-- what the written part says of such a class -/
structure OexE (K : PySem.W.Frag) (C : Addr) : Prop where
  cls : ∃ nm q N bs bm sn sub ab col dd k0 k1 k2 k3 k5, K.lookup C = some (excClassObj nm q C N bs bm true sn sub ab col dd k0 k1 k2 k3 k5 "Exception.__new__") ∧ PySem.NEX.refsEX bm = true
  sa : PySem.W.findIn K (.ref C) "__setattr__" = some (some (.builtin "object.__setattr__"))
  exC : PySem.W.subIn K (.ref C) (.type "BaseException") = some true
  tyC : PySem.W.typeIn K (.ref C) = some (.type "type")
  kC : PySem.W.keepIn K (.ref C) = true
section
variable {X : Cx} {pins : List (Addr × Obj)} {σ : St} {H : Hp} {s : Shared} {a C dx : Addr} {f : Str} {y : V} {u : Value} {fs : List (Str × V)} {Q : Unit → Shared → Prop} {E : Value → Shared → Prop} {A : Around}
theorem ostE_new (T : OexE X.K C) (I : Inv X pins σ H s) (e : H a = some (exo a C none)) (hno : PySem.W.findIn X.K (.ref C) f = some none) (ry : RelV y u)
    (h : ∀ dx s', H dx = none → dx ≠ a → Inv X pins σ (upd (upd H dx (exd dx [(f, y)])) a (exo a C (some dx))) s' → Q () s') : wpAny (model X.prog X.w) A (setAttr (.ref a) f u) Q E s := by
  obtain ⟨nm, q, N, bs, bm, sn, sub, ab, col, dd, k0, k1, k2, k3, k5, hC, hbm⟩ := T.cls
  have hcl : PySem.W.clsIn X.K C = some { name := nm, bases := bs, mro := .ref C :: bm, ns := N, qualname := q, hasDict := true, slotNames := sn, subclasses := sub, abstract := ab, collection := col, hasDel := false } := by unfold PySem.W.clsIn; rw [hC] <;> rfl
  obtain ⟨t1, ho⟩ := exo_at I.hok e
  obtain ⟨hp, g, d, t, os⟩ := s
  refine PySem.W.set_plain I.kIn (ox := { cls := .ref C, dict := none, data := .fields #[.ref t1, .none, .none, .none, .bool false, .none] }) (od := none) ⟨ho, rfl, rfl, trivial⟩ T.sa ?_
  refine PySem.NEX.osa_new I.kIn ho hcl (show PySem.NEX.refsEX (.ref C :: bm) = true from hbm) rfl hno (fun h' tk' dx k dn dne hx hn => ?_)
  have hnd : H dx = none := I.hok.fresh dn
  have nd : ∀ {b : Addr} {o : Obj}, hp.get? b = some o → b ≠ dx := fun {b o} q => Nat.ne_of_lt (Nat.lt_of_lt_of_le (Heap.lt_size q) dn)
  have na : ∀ {b : Addr}, H b = none → b ≠ a := fun {b} n z => by
    rw [z, e] at n
    cases n
  have Un1 : Un X.fs [] H (upd (upd H dx (exd dx [(f, y)])) a (exo a C (some dx))) hp h' := {
    keep := fun b o q n _ _ => k b o (na n) q
    slot := fun b o q n _ _ => ⟨o.slots, k b o (na n) q⟩
    free := fun b o q n _ => by rw [upd_ne (na n), upd_ne (nd q)]; exact n
    there := fun b o q _ => by
      by_cases hb : b = a
      · exact ⟨_, by rw [hb]; exact hx⟩
      · exact ⟨o, k b o hb q⟩
    tups := fun b xs q => by rw [upd_ne (at_ne e q exo_tup), upd_ne (ne_of_none q hnd)]; exact q
    frzs := fun b o v q => by rw [upd_ne (at_ne e q exo_frz), upd_ne (ne_of_none q hnd)]; exact q
    tbls := fun b ps q => ⟨#[], by rw [upd_ne (at_ne e q exo_tbl), upd_ne (ne_of_none q hnd), q]; simp⟩ }
  refine h dx _ hnd dne (I.un (t' := tk') Un1 fun b o q => ?_)
  by_cases hb : b = a
  · subst hb
    rw [upd_same] at q
    cases q
    exact exo_ok hx
  · rw [upd_ne hb] at q
    by_cases hd : b = dx
    · subst hd
      rw [upd_same] at q
      cases q
      exact exd_ok hn (relO_put (fs := []) ry fun g => True.intro)
    · rw [upd_ne hd] at q
      exact (I.hok b o q).stay (fun c v hc z => k c v (by
          rcases hc with hc | hc
          · rw [hc]
            exact hb
          · exact at_ne e hc exo_own) z)
        (fun c hc => by rw [upd_ne (at_ne e hc exo_own), upd_ne (ne_of_none hc hnd)]; exact hc) (fun c xs hc => by rw [upd_ne (at_ne e hc exo_tup), upd_ne (ne_of_none hc hnd)]; exact hc)
end
/-- __init__(self, f): self.f = f -/
def spInit (C : Addr) (f : Str) : Sp := fun vs H Q _ => ∃ a y, vs = [V.ref a, y] ∧ H a = some (exo a C none) ∧ ∀ dx, H dx = none → dx ≠ a → Q .non (upd (upd H dx (exd dx [(f, y)])) a (exo a C (some dx)))
theorem init_body {X : Cx} {C : Addr} {f sn an : Str} {p1 p2 p3 pos : Pos} {H : Hp} {vs : List V} {Q : VK} {E : XK} (T : OexE X.K C) (hno : PySem.W.findIn X.K (.ref C) f = some none) (h0 : PE X (.Name sn p1) (tVar 0)) (h1 : PE X (.Name an p3) (tVar 1))
    (hs : swapsWith (.Name an p3) (some (.Attribute (.Name sn p1) f p2)) pos.line X.env = pure false) (sp : spInit C f vs H Q E) :
    ∃ t, PSs X [.Assign [.Attribute (.Name sn p1) f p2] (.Name an p3) pos] t ∧ t { nx := fun _ H' => Q .non H', rt := Q } (start [sn, an] vs) H := by
  refine ⟨fun D σ H => tVar 1 σ H fun y H1 => tVar 0 σ H1 fun x H2 => ∃ a, x = .ref a ∧ H2 a = some (exo a C none) ∧ ∀ dx, H2 dx = none → dx ≠ a → D.nx σ (upd (upd H2 dx (exd dx [(f, y)])) a (exo a C (some dx))), pss_one ⟨fun pins s σ H D I h => ?_⟩, ?_⟩
  · refine plainObj_wpAny_Assign_Attribute (thn (h1.run pins s σ H _ I h) fun v s1 ⟨y, H1, I1, r1, q1⟩ => thn (h0.run pins s1 σ H1 _ I1 q1) fun u s2 ⟨x, H2, I2, r2, a, ex, ea, q⟩ => ?_) hs
    subst ex
    obtain rfl : u = Value.ref a := r2
    exact ostE_new T I2 ea hno r1 fun dx s' n ne J => ⟨σ, _, J, q dx n ne⟩
  · obtain ⟨a, y, rfl, ea, q⟩ := sp
    exact ⟨y, rfl, _, rfl, a, rfl, ea, q⟩
/-- what C(e) leaves -/
def tMkE (C : Addr) (f : Str) (te : TE) : St → Hp → XK → Prop := fun σ H Q => te σ H fun y H1 => ∀ d, H1 d = none → Q (.ref C) (some d) (upd H1 d (.xd [(f, y)]))
theorem mk_heap {H1 : Hp} {a C d : Addr} {f : Str} {y : V} (na : H1 a = none) (hda : d ≠ a) :
    upd (del (upd (upd (upd H1 a (exo a C none)) d (exd d [(f, y)])) a (exo a C (some d))) a) d (.xd [(f, y)]) = upd H1 d (.xd [(f, y)]) := by
  funext b
  by_cases hb : b = d
  · subst hb; rw [upd_same, upd_same]
  · rw [upd_ne hb, upd_ne hb]
    by_cases hc : b = a
    · subst hc; rw [del_same, na]
    · rw [del_ne hc, upd_ne hc, upd_ne hb, upd_ne hc]
section
variable {X : Cx} {CX : CXT} {x : Str} {e : Expr} {te : TE} {p pos : Pos} {C fI : Addr} {f : Str} {k : Nat} {fd : FuncData} {ps : List Str}
/-- C(e) -/
theorem pmk5_oexE (T : OexE X.K C) (iC : PySem.W.findIn X.K (.ref C) "__init__" = some (some (.ref fI))) (tI : PySem.W.typeIn X.K (.ref fI) = some (.type "function"))
    (F1 : FnOk X.prog X.w X.K X.mg X.base CX k fI fd ps (spInit C f)) (hr : Room (k + 1) X.A) (hb : Binds X.K fd ps []) (hx : Passes CX X (fun _ _ _ => False)) (hg : Gl X x) (hm : X.mg x = some (.ref C)) (ha : PE X e te)
    (hdb : (x == ("__debug__" : Str)) = false) (he : starEach [e] X.env = [(false, eval e X.env)]) (hpl : (backTo pos (starEach [] X.env)).any (·.1) = false := by rfl) :
    L2H.PMk5 X (.Call (.Name x p) [e] [] pos) (tMkE C f te) := by
  intro pins s σ H Q I h
  obtain ⟨nm, q, N, bs, bm, sn, sub, ab, col, dd, k0, k1, k2, k3, k5, hC, hbm⟩ := T.cls
  refine wpAny_Call_Name_kw (ld_glob I hg hm ?_ hdb)
  refine PySem.W.callWith_K (h₀ := X.base) I.ok.mod.kin T.kC (thn ((pa_cons ha pa_nil he).run pos pins s σ H (fun vs H1 => match vs with | [y] => ∀ d, H1 d = none → Q (.ref C) (some d) (upd H1 d (.xd [(f, y)])) | _ => False) I h) fun us s1 ⟨vs, H1, I1, r1, q1⟩ => ⟨I1.kIn, ?_⟩) he hpl
  obtain ⟨y, ev⟩ : ∃ y, vs = [y] := by
    match vs, q1 with
    | [y], _ => exact ⟨y, rfl⟩
  subst ev
  show wpAny _ _ (call (.ref C) us) _ _ _
  obtain ⟨hp, g, dr, tk, os⟩ := s1
  have hsz : hp.objs.size ≤ hp.objs.size + 1 := Nat.le_succ _
  have hn : H1 (hp.objs.size + 1) = none := I1.hok.fresh hsz
  have kk : ∀ b o, hp.get? b = some o → ((hp.push (PySem.W.kdv_tup us)).push (PySem.HandSPX.excO C hp.objs.size)).get? b = some o := fun b o e => Heap.get?_push_of_some _ (Heap.get?_push_of_some _ e)
  have hget : ((hp.push (PySem.W.kdv_tup us)).push (PySem.HandSPX.excO C hp.objs.size)).get? (hp.objs.size + 1) = some (PySem.HandSPX.excO C hp.objs.size) := by heap_get
  have I2 : Inv X pins σ (upd H1 (hp.objs.size + 1) (exo (hp.objs.size + 1) C none)) ⟨(hp.push (PySem.W.kdv_tup us)).push (PySem.HandSPX.excO C hp.objs.size), g, dr, tk, os⟩ :=
    I1.laid (t' := tk) (a := hp.objs.size + 1) (o := exo (hp.objs.size + 1) C none) (h' := (hp.push (PySem.W.kdv_tup us)).push (PySem.HandSPX.excO C hp.objs.size)) kk hsz (exo_ok hget)
  have r2 : Vals [V.ref (hp.objs.size + 1), y] (Value.ref (hp.objs.size + 1) :: us) := .cons rfl r1
  have hq : spInit C f [V.ref (hp.objs.size + 1), y] (upd H1 (hp.objs.size + 1) (exo (hp.objs.size + 1) C none)) (fun v H2 => v = .non ∧ ∃ d, d ≠ hp.objs.size + 1 ∧ H1 d = none ∧ H2 = upd (upd (upd H1 (hp.objs.size + 1) (exo (hp.objs.size + 1) C none)) d (exd d [(f, y)])) (hp.objs.size + 1) (exo (hp.objs.size + 1) C (some d))) (fun _ _ _ => False) :=
    ⟨_, y, rfl, upd_same, fun dx hdx ne => ⟨rfl, dx, ne, by rw [upd_ne ne] at hdx; exact hdx, rfl⟩⟩
  have hl : (Value.ref (hp.objs.size + 1) :: us ++ []).length = ps.length := by
    have e := r2.length
    rw [F1.len _ _ _ _ hq] at e
    rw [List.append_nil]
    exact e.symm
  have hus : us.length ≤ sizeLine := by
    rw [← Paired.length r1, sizeLine_eq]
    show 1 ≤ 16777216
    decide
  have b2 := hb ⟨(hp.push (PySem.W.kdv_tup us)).push (PySem.HandSPX.excO C hp.objs.size), g, dr, tk, os⟩ (Value.ref (hp.objs.size + 1) :: us) I2.kIn hl
  rw [List.append_nil] at b2
  refine wpAny_call (PySem.HandSPX.call_own F.excBase_Exception (fun Y => PySem.NEX.refsEX_contains Y bm hbm) (I1.kIn _ _ hC) (PySem.W.looks_findIn I1.kIn iC) (fun self => PySem.W.bind_fn I1.kIn self tI) hus
    (codeAny_mono (F1.run _ X.stack _ _ ⟨Value.ref (hp.objs.size + 1) :: us, []⟩ (Value.ref (hp.objs.size + 1) :: us) _ _ (fun _ _ _ => False) (hr.make C us []) (I2.env0.make C us []) b2 r2 hq) fun r s' hq' => ?_))
  cases r with
  | error er => exact hx pins σ _ _ er s' I2 hq'
  | ok fl =>
    cases fl with
    | ret u =>
      obtain ⟨v, H2, os2, bare2, un2, hok2, rv, ev, d, hda, hd1, eH⟩ := hq'
      subst ev
      subst eH
      have ea : upd (upd (upd H1 (hp.objs.size + 1) (exo (hp.objs.size + 1) C none)) d (exd d [(f, y)])) (hp.objs.size + 1) (exo (hp.objs.size + 1) C (some d)) (hp.objs.size + 1) = some (exo (hp.objs.size + 1) C (some d)) := upd_same
      have ed : upd (upd (upd H1 (hp.objs.size + 1) (exo (hp.objs.size + 1) C none)) d (exd d [(f, y)])) (hp.objs.size + 1) (exo (hp.objs.size + 1) C (some d)) d = some (exd d [(f, y)]) := by rw [upd_ne hda, upd_same]
      obtain ⟨h2, g2, d2, t2, os'⟩ := s'
      obtain ⟨t0, G, J, kG, ge, hoe, na⟩ := mk_end0 (d2 := d2) (t2 := t2) I1 hsz kk un2 hok2 os2 bare2 ea ed hd1
      rw [mk_heap hn hda] at J na
      refine ⟨rv, ⟨hp.objs.size + 1, _, _, ⟨G, g2, d2, t2, os'⟩, _, .ref C, some d, rfl, J, kG, ge, hoe, ⟨rfl, rfl, fun vs hv => ?_⟩, rfl, rfl, na, rfl, bare2, raises_own T.exC T.tyC, q1 d hd1⟩, fun a oe vs ea2 hg2 hd2 => ?_⟩
      · cases hv
        rfl
      · cases ea2
        have hg3 : h2.get? (hp.objs.size + 1) = some oe := hg2
        rw [hoe] at hg3
        cases hg3
        cases hd2
        show (4 : Nat) < 6
        decide
    | next => exact False.elim hq'
    | brk => exact False.elim hq'
    | cont => exact False.elim hq'
/-- C(e) while an exception is handled -/
theorem pmk5_oexEH (T : OexE X.K C) (iC : PySem.W.findIn X.K (.ref C) "__init__" = some (some (.ref fI))) (tI : PySem.W.typeIn X.K (.ref fI) = some (.type "function"))
    (F1 : L2H.FnH X.prog X.w X.K X.mg X.base CX k fI fd ps (spInit C f)) (hr : L2H.RoomH (k + 1) X.A) (hc : L2H.HotC X) (hb : Binds X.K fd ps []) (hx : Passes CX X (fun _ _ _ => False)) (hg : Gl X x) (hm : X.mg x = some (.ref C)) (ha : PE X e te)
    (hdb : (x == ("__debug__" : Str)) = false) (he : starEach [e] X.env = [(false, eval e X.env)]) (hpl : (backTo pos (starEach [] X.env)).any (·.1) = false := by rfl) :
    L2H.PMk5 X (.Call (.Name x p) [e] [] pos) (tMkE C f te) := by
  intro pins s σ H Q I h
  obtain ⟨nm, q, N, bs, bm, sn, sub, ab, col, dd, k0, k1, k2, k3, k5, hC, hbm⟩ := T.cls
  obtain ⟨pn, hot, hpn⟩ := hc
  refine wpAny_Call_Name_kw (ld_glob I hg hm ?_ hdb)
  refine PySem.W.callWith_K (h₀ := X.base) I.ok.mod.kin T.kC (thn ((pa_cons ha pa_nil he).run pos pins s σ H (fun vs H1 => match vs with | [y] => ∀ d, H1 d = none → Q (.ref C) (some d) (upd H1 d (.xd [(f, y)])) | _ => False) I h) fun us s1 ⟨vs, H1, I1, r1, q1⟩ => ⟨I1.kIn, ?_⟩) he hpl
  obtain ⟨y, ev⟩ : ∃ y, vs = [y] := by
    match vs, q1 with
    | [y], _ => exact ⟨y, rfl⟩
  subst ev
  show wpAny _ _ (call (.ref C) us) _ _ _
  obtain ⟨hp, g, dr, tk, os⟩ := s1
  have hsz : hp.objs.size ≤ hp.objs.size + 1 := Nat.le_succ _
  have hn : H1 (hp.objs.size + 1) = none := I1.hok.fresh hsz
  have kk : ∀ b o, hp.get? b = some o → ((hp.push (PySem.W.kdv_tup us)).push (PySem.HandSPX.excO C hp.objs.size)).get? b = some o := fun b o e => Heap.get?_push_of_some _ (Heap.get?_push_of_some _ e)
  have hget : ((hp.push (PySem.W.kdv_tup us)).push (PySem.HandSPX.excO C hp.objs.size)).get? (hp.objs.size + 1) = some (PySem.HandSPX.excO C hp.objs.size) := by heap_get
  have I2 : Inv X pins σ (upd H1 (hp.objs.size + 1) (exo (hp.objs.size + 1) C none)) ⟨(hp.push (PySem.W.kdv_tup us)).push (PySem.HandSPX.excO C hp.objs.size), g, dr, tk, os⟩ :=
    I1.laid (t' := tk) (a := hp.objs.size + 1) (o := exo (hp.objs.size + 1) C none) (h' := (hp.push (PySem.W.kdv_tup us)).push (PySem.HandSPX.excO C hp.objs.size)) kk hsz (exo_ok hget)
  have r2 : Vals [V.ref (hp.objs.size + 1), y] (Value.ref (hp.objs.size + 1) :: us) := .cons rfl r1
  have hq : spInit C f [V.ref (hp.objs.size + 1), y] (upd H1 (hp.objs.size + 1) (exo (hp.objs.size + 1) C none)) (fun v H2 => v = .non ∧ ∃ d, d ≠ hp.objs.size + 1 ∧ H1 d = none ∧ H2 = upd (upd (upd H1 (hp.objs.size + 1) (exo (hp.objs.size + 1) C none)) d (exd d [(f, y)])) (hp.objs.size + 1) (exo (hp.objs.size + 1) C (some d))) (fun _ _ _ => False) :=
    ⟨_, y, rfl, upd_same, fun dx hdx ne => ⟨rfl, dx, ne, by rw [upd_ne ne] at hdx; exact hdx, rfl⟩⟩
  have hl : (Value.ref (hp.objs.size + 1) :: us ++ []).length = ps.length := by
    have e := r2.length
    rw [F1.len _ _ _ _ hq] at e
    rw [List.append_nil]
    exact e.symm
  have hus : us.length ≤ sizeLine := by
    rw [← Paired.length r1, sizeLine_eq]
    show 1 ≤ 16777216
    decide
  have b2 := hb ⟨(hp.push (PySem.W.kdv_tup us)).push (PySem.HandSPX.excO C hp.objs.size), g, dr, tk, os⟩ (Value.ref (hp.objs.size + 1) :: us) I2.kIn hl
  rw [List.append_nil] at b2
  have P1 := I2.pin pn (List.mem_append_left _ hpn)
  have hpin : L2H.PinOk X.stack (upd H1 (hp.objs.size + 1) (exo (hp.objs.size + 1) C none)) ⟨(hp.push (PySem.W.kdv_tup us)).push (PySem.HandSPX.excO C hp.objs.size), g, dr, tk, os⟩ pn :=
    ⟨P1.1, P1.2.1, fun hmm => (List.mem_cons.mp (I2.stkSub pn.1 hmm)).elim P1.2.2.1 P1.2.2.2.1, P1.2.2.2.2⟩
  refine wpAny_call (PySem.HandSPX.call_own F.excBase_Exception (fun Y => PySem.NEX.refsEX_contains Y bm hbm) (I1.kIn _ _ hC) (PySem.W.looks_findIn I1.kIn iC) (fun self => PySem.W.bind_fn I1.kIn self tI) hus
    (codeAny_mono (F1.run _ X.stack _ _ ⟨Value.ref (hp.objs.size + 1) :: us, []⟩ (Value.ref (hp.objs.size + 1) :: us) _ _ (fun _ _ _ => False) pn (hr.make C us []) ⟨hot.1, hot.2⟩ hpin (I2.env0.make C us []) b2 r2 hq) fun r s' hq' => ?_))
  cases r with
  | error er => exact hx pins σ _ _ er s' I2 hq'
  | ok fl =>
    cases fl with
    | ret u =>
      obtain ⟨v, H2, os2, bare2, un2, hok2, rv, ev, d, hda, hd1, eH⟩ := hq'
      subst ev
      subst eH
      have ea : upd (upd (upd H1 (hp.objs.size + 1) (exo (hp.objs.size + 1) C none)) d (exd d [(f, y)])) (hp.objs.size + 1) (exo (hp.objs.size + 1) C (some d)) (hp.objs.size + 1) = some (exo (hp.objs.size + 1) C (some d)) := upd_same
      have ed : upd (upd (upd H1 (hp.objs.size + 1) (exo (hp.objs.size + 1) C none)) d (exd d [(f, y)])) (hp.objs.size + 1) (exo (hp.objs.size + 1) C (some d)) d = some (exd d [(f, y)]) := by rw [upd_ne hda, upd_same]
      obtain ⟨h2, g2, d2, t2, os'⟩ := s'
      obtain ⟨t0, G, J, kG, ge, hoe, na⟩ := mk_end0 (d2 := d2) (t2 := t2) I1 hsz kk un2 hok2 os2 bare2 ea ed hd1
      rw [mk_heap hn hda] at J na
      refine ⟨rv, ⟨hp.objs.size + 1, _, _, ⟨G, g2, d2, t2, os'⟩, _, .ref C, some d, rfl, J, kG, ge, hoe, ⟨rfl, rfl, fun vs hv => ?_⟩, rfl, rfl, na, rfl, bare2, raises_own T.exC T.tyC, q1 d hd1⟩, fun a oe vs ea2 hg2 hd2 => ?_⟩
      · cases hv
        rfl
      · cases ea2
        have hg3 : h2.get? (hp.objs.size + 1) = some oe := hg2
        rw [hoe] at hg3
        cases hg3
        cases hd2
        show (4 : Nat) < 6
        decide
    | next => exact False.elim hq'
    | brk => exact False.elim hq'
    | cont => exact False.elim hq'
end
end L2
end
section
set_option Elab.async false
set_option linter.all false
set_option maxRecDepth 100000
set_option maxHeartbeats 1000000
namespace Nb
open PySem PySem.Spec PyProof.Rows L2
theorem PS.imp {X : Cx} {e : Stmt} {t t' : TS} (h : PS X e t) (i : ∀ D s H, t' D s H → t D s H) : PS X e t' := ⟨fun pins s σ H D I q => h.run pins s σ H D I (i D σ H q)⟩
theorem PSs.imp {X : Cx} {e : List Stmt} {t t' : TS} (h : PSs X e t) (i : ∀ D s H, t' D s H → t D s H) : PSs X e t' := ⟨fun pins s σ H D I q => h.run pins s σ H D I (i D σ H q)⟩
/-- a cold exception is an exception -/
theorem takesN {X : Cx} {W : WX} (tk : L2.Takes X W) : L2N.Takes X W := fun u s' ⟨a, B, sI, pins, σ, H, cls, d, e, I, nb, up, sky, na, os, ag, w⟩ => by
  refine tk u s' ⟨a, B, sI, pins, σ, H, cls, d, e, I, nb, up, ?_, na, os, ag, w⟩
  rcases sky with ⟨h1, h2, h3, oe, vs, h4, h5, h6, h7⟩ | f | f
  · exact .inl ⟨h1, h2, h3, oe, vs, h4, h5.zc, h6, h7⟩
  · exact .inr (.inl (L2H.flyingZ_imp (fun o z => z.zc) f))
  · exact .inr (.inr ⟨f.1, f.2.1, f.2.2.1, L2H.tracedZ_imp (fun o z => z.zc) f.2.2.2⟩)
def onR {a : Type} (r : R a) (env : Env) (k : a → Hpp → SF) : SF := match r with
  | .ok d h => k d h
  | .exc c l h => .exc c l env h
  | .no => .no
def sNil : SM := fun env h => .nx env h
def sSeq (m r : SM) : SM := fun env h => match m env h with
  | .nx e h1 => r e h1
  | x => x
def sSet (i : Nat) (m : EM) : SM := fun env h => onR (m env h) env fun d h1 => if i < env.length then .nx (env.set i (some d)) h1 else .no
def sRet (m : EM) : SM := fun env h => onR (m env h) env fun d h1 => .rt d h1
def sRetN : SM := fun env h => .rt .non h
def sIf (c : M Bool) (a b : SM) : SM := fun env h => onR (c env h) env fun k h1 => if k = true then a env h1 else b env h1
def sExpr (m : EM) : SM := fun env h => onR (m env h) env fun _ h1 => .nx env h1
def sBreak : SM := fun env h => .bk env h
def sCont : SM := fun env h => .ct env h
def sRaise (c : Nat) (f : Str) (m : EM) : SM := fun env h => onR (m env h) env fun d h1 => if d.isRef = true then .no else .exc c [(f, d)] env h1
open Classical in
noncomputable def forGo (src : List (Nat × List D)) (t : Tg) (body : SM) : List D → Env → Hpp → SF
  | [], env, h => if srcOk src h then .nx env h else .no
  | d :: ds, env, h => if srcOk src h then (match t d env with
      | none => .no
      | some e => match body e h with
        | .nx e1 h1 => forGo src t body ds e1 h1
        | .ct e1 h1 => forGo src t body ds e1 h1
        | .bk e1 h1 => .nx e1 h1
        | x => x)
    else .no
noncomputable def sFor (mi : M ItS) (t : Tg) (body : SM) : SM := fun env h => onR (mi env h) env fun it h1 => forGo it.src t body it.items env h1
def whGo (c : M Bool) (body : SM) : Nat → Env → Hpp → SF
  | 0, _, _ => .no
  | n + 1, env, h => onR (c env h) env fun k h1 => if k = true then (match body env h1 with
      | .nx e1 h2 => whGo c body n e1 h2
      | .ct e1 h2 => whGo c body n e1 h2
      | .bk e1 h2 => .nx e1 h2
      | x => x) else .nx env h1
section
variable {C : Ctx} {W : WX} {X : Cx} {pos p : Pos} {e : Expr} {m : EM} {st : Stmt} {rest : List Stmt} {sm sr : SM}
/-- the step from an expression's end to a statement's -/
theorem onR_post {a b : Type} {Rl : Hp → List Addr → a → b → Prop} {H : Hp} {mu : List Addr} {env : Env} {s : L2.St} {h : Hpp} {r : R a} {k : a → Hpp → SF} {D : Ends} (sr : SR C mu env h s H) (p : PostS C W H mu (onR r env k) D)
    {Q : b → Hp → Prop} (i : ∀ v H1 mu1 d h1, SR C mu1 env h1 s H1 → Ext H mu H1 mu1 → Rl H1 mu1 d v → PostS C W H1 mu1 (k d h1) D → Q v H1) : Post C H mu Rl r Q fun c d H' => W c d s H' := by
  cases r with
  | ok d h1 => exact fun mu' v H' e' rp rl => i v H' mu' d h1 (sr.to e' rp) e' rl (PostS.shift e' p)
  | exc c l h1 => exact fun mu' cls dx H' e' rp rx => p mu' cls dx s H' e' (sr.to e' rp) rx
  | no => exact p
theorem ds_nil : PSs X [] (tS C W sNil) := PSs.imp pss_nil fun D s H ⟨mu, env, h, sr, p⟩ => p mu s H .refl sr
theorem tSeq_sim : ∀ D s H, tS C W (sSeq sm sr) D s H → tSeq (tS C W sm) (tS C W sr) D s H := fun D s H ⟨mu, env, h, r, p⟩ => by
  refine ⟨mu, env, h, r, ?_⟩
  unfold sSeq at p
  revert p
  cases sm env h with
  | nx e1 h1 => exact fun p mu' s' H' e' r' => ⟨mu', e1, h1, r', PostS.shift e' p⟩
  | rt _ _ => exact fun p => p
  | bk _ _ => exact fun p => p
  | ct _ _ => exact fun p => p
  | exc _ _ _ _ => exact fun p => p
  | no => exact fun p => p
theorem ds_cons (h1 : PS X st (tS C W sm)) (h2 : PSs X rest (tS C W sr)) : PSs X (st :: rest) (tS C W (sSeq sm sr)) := PSs.imp (pss_cons h1 h2) tSeq_sim
theorem ds_one (h1 : PS X st (tS C W sm)) : PSs X [st] (tS C W sm) := pss_one h1
theorem tAsg_sim {i : Nat} {te : TE} (hh : ∀ s H Q, tE C W m s H Q → te s H Q) : ∀ D s H, tS C W (sSet i m) D s H → tAsg te (gName i) D s H := fun D s H ⟨mu, env, h, sr, p⟩ => by
  refine hh _ _ _ ⟨mu, env, h, sr, onR_post (Rl := RlD C) sr p fun v H1 mu1 d h1 sr1 e1 rd p1 => ?_⟩
  split at p1
  · exact p1 mu1 _ H1 .refl ⟨sr1.ext, sr1.hp, sr1.en.set rd⟩
  · exact p1.elim
theorem ds_set {i : Nat} {x : Str} (hN : X.N.Nodup) (hi : X.N[i]? = some x) (hx : X.env.scope.names.lookup x = some .local) (he : PE X e (tE C W m)) (hs : swapsWith e (some (.Name x p)) pos.line X.env = pure false) : PS X (.Assign [.Name x p] e pos) (tS C W (sSet i m)) :=
  PS.imp (ps_set hN hi (.inl hx) he hs (.inr hx)) (tAsg_sim fun _ _ _ z => z)
theorem ds_ret (he : PE X e (tE C W m)) : PS X (.Return (some e) pos) (tS C W (sRet m)) := PS.imp (ps_ret he) fun D s H ⟨mu, env, h, sr, p⟩ =>
  ⟨mu, env, h, sr, onR_post (Rl := RlD C) sr p fun v H1 mu1 d h1 sr1 e1 rd p1 => p1 mu1 v H1 .refl sr1.ext sr1.hp rd⟩
theorem ds_retN : PS X (.Return none pos) (tS C W sRetN) := PS.imp ps_retN fun D s H ⟨mu, env, h, sr, p⟩ => p mu .non H .refl sr.ext sr.hp .non
theorem ds_if {c : Expr} {a b : List Stmt} {tc : M Bool} {sa sb : SM} (hc : PT X c (tT C W tc)) (ha : PSs X a (tS C W sa)) (hb : PSs X b (tS C W sb)) : PS X (.If c a b pos) (tS C W (sIf tc sa sb)) := PS.imp (ps_if hc ha hb) fun D s H ⟨mu, env, h, sr, p⟩ => by
  refine ⟨mu, env, h, sr, onR_post (Rl := RlB) sr p fun v H1 mu1 d h1 sr1 e1 rd p1 => ?_⟩
  cases rd
  cases v with
  | true => exact ⟨mu1, env, h1, sr1, p1⟩
  | false => exact ⟨mu1, env, h1, sr1, p1⟩
theorem ds_expr (he : PE X e (tE C W m)) (hs : swapsWith e none pos.line X.env = pure false) : PS X (.Expr e pos) (tS C W (sExpr m)) := PS.imp (ps_expr he hs) fun D s H ⟨mu, env, h, sr, p⟩ =>
  ⟨mu, env, h, sr, onR_post (Rl := RlD C) sr p fun v H1 mu1 d h1 sr1 e1 rd p1 => p1 mu1 s H1 .refl sr1⟩
theorem ds_pass : PS X (.Pass pos) (tS C W sNil) := PS.imp ps_pass fun D s H ⟨mu, env, h, sr, p⟩ => p mu s H .refl sr
theorem ds_break : PS X (.Break pos) (tS C W sBreak) := PS.imp ps_break fun D s H ⟨mu, env, h, sr, p⟩ => p mu s H .refl sr
theorem ds_continue : PS X (.Continue pos) (tS C W sCont) := PS.imp ps_continue fun D s H ⟨mu, env, h, sr, p⟩ => p mu s H .refl sr
theorem PostS.src {H : Hp} {mu : List Addr} {src : List (Nat × List D)} {t : Tg} {ds : List D} {env : Env} {h : Hpp} {D : Ends} (p : PostS C W H mu (forGo src t sm ds env h) D) : srcOk src h := by
  cases ds with
  | nil =>
    unfold forGo at p
    split at p
    · assumption
    · exact p.elim
  | cons d ds =>
    unfold forGo at p
    split at p
    · assumption
    · exact p.elim
theorem ds_for {tg iter : Expr} {body : List Stmt} {mi : M ItS} {t : Tg} {g : TG} {is : List Nat} (hp : PassesOwn (model X.prog X.w) X.A X.env X.xe) (hc : X.calm = true) (hi : PI X tg iter (tI C W mi)) (hg : PG X tg g) (sg : SimG C t g is) (hb : PSs X body (tS C W sm))
    (hs : ∀ x, foldedSetIterable iter X.env x = pure x) : PS X (.For tg iter body [] pos) (tS C W (sFor mi t sm)) := PS.imp (ps_for hp hc hi hg hb hs) fun D s H ⟨mu, env, h, sr, p⟩ => by
  refine ⟨mu, env, h, sr, onR_post (Rl := WalkD C) sr p fun J H1 mu1 it h1 sr1 e1 wd p1 => ?_⟩
  clear p
  obtain ⟨hz, G, Y, w, w1, w2⟩ := wd
  refine for_it w (fun i s' H' => ∃ mu' env' h', SR C mu' env' h' s' H' ∧ Ext H1 mu1 H' mu' ∧ PostS C W H' mu' (forGo it.src t sm (it.items.drop i) env' h') D) ⟨mu1, env, h1, sr1, .refl, p1⟩ ?_ ?_ ?_
  · rintro i s' H' hi ⟨mu', env', h', sr', x, q⟩
    exact w1 mu' H' h' x sr'.hp q.src
  · rintro i v s' H' H'' hlt ⟨mu', env', h', sr', x, q⟩ y
    have so := q.src
    obtain ⟨d, hd, sm', rd⟩ := w2 i H' v H'' mu' h' x sr'.hp so hlt y
    have hdr : it.items.drop i = d :: it.items.drop (i + 1) := by
      obtain ⟨h0, h1'⟩ := List.getElem?_eq_some_iff.mp hd
      rw [List.drop_eq_getElem_cons h0, h1']
    rw [hdr] at q
    unfold forGo at q
    rw [if_pos so] at q
    have x2 : Ext H' mu' H'' mu' := Ext.same sm'
    have sr2 : SR C mu' env' h' s' H'' := sr'.to x2 (sr'.hp.same sm')
    cases hte : t d env' with
    | none => rw [hte] at q; exact q.elim
    | some e2 =>
    rw [hte] at q
    simp only at q
    refine sg H'' mu' h' env' e2 s' d v _ sr2.hp sr2.en rd hte fun s2 re2 _ => ⟨mu', e2, h', ⟨sr2.ext, sr2.hp, re2⟩, ?_⟩
    replace q := PostS.shift x2 q
    revert q
    cases sm e2 h' with
    | nx e3 h3 => exact fun q mu3 s3 H3 x3 sr3 => ⟨mu3, e3, h3, sr3, (x.trans x2).trans x3, PostS.shift x3 q⟩
    | ct e3 h3 => exact fun q mu3 s3 H3 x3 sr3 => ⟨mu3, e3, h3, sr3, (x.trans x2).trans x3, PostS.shift x3 q⟩
    | bk e3 h3 => exact fun q => q
    | rt _ _ => exact fun q => q
    | exc _ _ _ _ => exact fun q => q
    | no => exact fun q => q
  · rintro s' H' ⟨mu', env', h', sr', x, q⟩
    rw [List.drop_length] at q
    unfold forGo at q
    split at q
    · exact q mu' s' H' .refl sr'
    · exact q.elim
theorem ds_while {c : Expr} {body : List Stmt} {tc : M Bool} (n : Nat) (hp : PassesOwn (model X.prog X.w) X.A X.env X.xe) (hc : PT X c (tT C W tc)) (hb : PSs X body (tS C W sm)) : PS X (.While c body [] pos) (tS C W (whGo tc sm n)) := PS.imp (ps_while hp hc hb) fun D s H ⟨mu, env, h, sr, p⟩ => by
  refine ⟨fun k s' H' => ∃ mu' env' h', SR C mu' env' h' s' H' ∧ PostS C W H' mu' (whGo tc sm k env' h') D, ⟨n, mu, env, h, sr, p⟩, ?_⟩
  rintro k s' H' ⟨mu', env', h', sr', q⟩
  cases k with
  | zero => exact q.elim
  | succ k =>
    unfold whGo at q
    refine ⟨mu', env', h', sr', onR_post (Rl := RlB) sr' q fun v H1 mu1 b h1 sr1 e1 rd p1 => ?_⟩
    cases rd
    cases v with
    | false => exact p1 mu1 s' H1 .refl sr1
    | true =>
      rw [if_pos rfl] at p1 ⊢
      refine ⟨fun s2 H2 => ∃ mu' env' h', SR C mu' env' h' s2 H2 ∧ PostS C W H2 mu' (whGo tc sm k env' h') D, fun s2 H2 z => ⟨k, Nat.lt_succ_self k, z⟩, mu1, env', h1, sr1, ?_⟩
      revert p1
      cases sm env' h1 with
      | nx e3 h3 => exact fun q mu3 s3 H3 x3 sr3 => ⟨mu3, e3, h3, sr3, PostS.shift x3 q⟩
      | ct e3 h3 => exact fun q mu3 s3 H3 x3 sr3 => ⟨mu3, e3, h3, sr3, PostS.shift x3 q⟩
      | bk e3 h3 => exact fun q => q
      | rt _ _ => exact fun q => q
      | exc _ _ _ _ => exact fun q => q
      | no => exact fun q => q
/-- name = [..] -/
theorem ds_setLc (fr : Bool) {i : Nat} {y : Str} {elt tg iter : Expr} {ifs : List Expr} {scope : Scope} {own : List (Str × Nat)} {spos : Pos} {mi : M ItS} {t : Tg} {tt : M Bool} {te : EM} {g : TG} {is : List Nat} (hc : X.calm = true) (hN : X.N.Nodup) (hy : X.N[i]? = some y) (hyl : X.env.scope.names.lookup y = some .local)
    (hsw : swapsWith (.ListComp elt [⟨tg, iter, ifs, 0⟩] scope pos) (some (.Name y p)) spos.line X.env = pure true) (hi : PI X tg iter (tI C W mi)) (ok : BlkOk X.N X.env.scope scope own)
    (hg : ∀ (s : Shared) (H : Hp) (C : Addr) (cl : List (Str × Addr)) (fp : List Addr), PG (X.blk s H scope (compEnvC scope cl C X.env) fp) tg g) (sg : SimG C t g is) (hsub : ∀ i ∈ is, i ∈ own.map (·.2))
    (ht : ∀ (s : Shared) (H : Hp) (D : Addr) (cl : List (Str × Addr)) (fp : List Addr), PTs (X.blk s H scope (compEnvC scope cl D X.env) fp) ifs (tT C WNo tt))
    (he : ∀ (s : Shared) (H : Hp) (D : Addr) (cl : List (Str × Addr)) (fp : List Addr), PE (X.blk s H scope (compEnvC scope cl D X.env) fp) elt (tE C WNo te)) (hs : ∀ x, foldedSetIterable iter X.env x = pure x) :
    PS X (.Assign [.Name y p] (.ListComp elt [⟨tg, iter, ifs, 0⟩] scope pos) spos) (tS C W (sSet i (eLc fr mi t tt te (own.map (·.2))))) :=
  PS.imp (ps_setLc hc hN hy hyl hsw hi ok hg ht he hs) (tAsg_sim (lc_sim fr sg hsub))

theorem tMk_sim {Cc : Addr} {c : Nat} {f : Str} (hcl : C.cl c Cc) : ∀ D s H, tS C W (sRaise c f m) D s H → tMkE Cc f (tE C W m) s H fun cls d H' => W cls d s H' := fun D s H ⟨mu, env, h, sr, p⟩ => by
  refine ⟨mu, env, h, sr, onR_post (Rl := RlD C) sr p fun v H1 mu1 d h1 sr1 e1 rd p1 => fun dx hdx => ?_⟩
  split at p1
  · exact p1.elim
  · rename_i hr
    have hr' : d.isRef = false := by simpa using hr
    refine p1 mu1 (.ref Cc) (some dx) s _ (Ext.nw hdx) ⟨sr1.ext.trans (Ext.nw hdx), sr1.hp.nw hdx, sr1.en.ext (Ext.nw hdx)⟩ ⟨Cc, dx, [(f, v)], rfl, hcl, rfl, sr1.hp.off hdx, upd_same, fun g x hx => ?_⟩
    by_cases hg : g = f
    · subst hg
      simp [List.lookup] at hx
      subst hx
      exact ⟨hr', v, by simp [List.lookup], rd.ext (Ext.nw hdx)⟩
    · have hb : (g == f) = false := by simpa using hg
      simp [List.lookup, hb] at hx
theorem ds_raise {Cc : Addr} {c : Nat} {f : Str} (hcl : C.cl c Cc) (hc : X.calm = true) (tk : L2N.Takes X W) (he : L2H.PMk5 X e (tMkE Cc f (tE C W m))) : PS X (.Raise (some e) none pos) (tS C W (sRaise c f m)) := PS.imp (L2N.ps_raise hc tk he.pmk) fun D s H z => tMk_sim hcl D s H z
theorem ds_raiseHN {Cc : Addr} {c : Nat} {f : Str} {j : Nat} {cpos : Pos} (hcl : C.cl c Cc) (hc : L2H.HotC X) (tk : L2.Takes X W) (he : L2H.PMk5 X e (tMkE Cc f (tE C W m))) : PS X (.Raise (some e) (some (.Constant .none j cpos)) pos) (tS C W (sRaise c f m)) := PS.imp (L2H.ps_raiseHN hc tk he) fun D s H z => tMk_sim hcl D s H z
end
end Nb
end
section
set_option Elab.async false
set_option linter.all false
set_option maxRecDepth 100000
set_option maxHeartbeats 2000000
namespace L2
open PySem PySem.Spec PyProof.Rows
/-- the wishes of clauses 'except x as n', one after the other -/
def wManyA (K : PySem.W.Frag) (Wout : WX) (D : Ends) : List (Value × Nat × (Addr → Value → Option Addr → TS)) → WX
  | [] => Wout
  | (c, i, ts) :: r => fun cls d σ H => ∃ b, PySem.W.exmOne K cls c = some b ∧ (b = true → ∀ a, H a = none → ts a cls d { nx := fun σ' H' => D.nx (σ'.set i none) H', rt := D.rt, bk := fun σ' H' => D.bk (σ'.set i none) H', ct := fun σ' H' => D.ct (σ'.set i none) H' } (σ.set i (some (.ref a))) H) ∧ (b = false → wManyA K Wout D r cls d σ H)
inductive HdsA (X : Cx) : List ExceptHandler → List (Value × Nat × (Addr → Value → Option Addr → TS)) → Prop
  | nil : HdsA X [] []
  | cons {x n : Str} {c : Value} {i : Nat} {ts : Addr → Value → Option Addr → TS} {b₀ : Stmt} {suite : List Stmt} {np pos' : Pos} {hds : List ExceptHandler} {l : List (Value × Nat × (Addr → Value → Option Addr → TS))} (hi : X.N[i]? = some n) (hln : X.env.kindOf n = some .local) (hc : Names X x c)
      (hsu : ∀ (a : Addr) (oe : Obj) (cls : Value) (d : Option Addr) (pn : List (Addr × Obj)), Zc cls d oe → (∃ vs, oe.data = .fields vs) → PSs (X.suite a ((a, oe) :: pn)) (b₀ :: suite) (ts a cls d)) (r : HdsA X hds l) :
      HdsA X (.ExceptHandler (some (.Name x np)) (some n) (b₀ :: suite) pos' :: hds) ((c, i, ts) :: l)
section
variable {X : Cx} {body : List Stmt} {h₀ : ExceptHandler} {hds : List ExceptHandler} {l : List (Value × Nat × (Addr → Value → Option Addr → TS))} {pos : Pos} {tb : WX → TS} {Wout : WX}
theorem ps_try_manyA (hs : X.stack = X.env :: X.outer) (hf : X.env.frame = some X.env.locals) (hN : X.N.Nodup) (tk : Takes X Wout)
    (hb : ∀ (W : WX) (pn : List (Addr × Obj)) (xe : Value → Shared → Prop), Takes (X.tr pn xe) W → PassesOwn (model X.prog X.w) X.A X.env xe → PSs (X.tr pn xe) body (tb W))
    (hh : HdsA X (h₀ :: hds) l) : PS X (.Try body (h₀ :: hds) [] [] pos) (fun D σ H => tb (wManyA X.K Wout D l) D σ H) := by
  refine ⟨fun pins s σ H D I h => ?_⟩
  have ok := I.ok
  have hfr : X.A.frames = some (X.env :: X.outer) := by rw [ok.frames, hs]
  refine wpAny_Try_except ?_
  refine wpAny_mono ((hb (wManyA X.K Wout D l) (X.pn ++ pins) (fun e s₁ => wpAny (model X.prog X.w) X.A (noteFrame e X.env) (fun _ s₂ => wpAny (model X.prog X.w) X.A (setFlight e none) (fun _ s₃ =>
    wpAny (model X.prog X.w) X.A (handleBy e X.env (h₀ :: hds)) (SP X pins D) X.xe s₃) X.xe s₂) X.xe s₁) (fun u s' xx => ?_) PassesOwn.looking).run [] s σ H D (I.toTry _) h) (fun f s1 hsp => ?_) (fun e s1 he => he)
  · obtain ⟨a, B, sI, pins', σ', H', cls, d, rfl, J', nb, up, sky, na, os, ag, w⟩ := xx
    have J : Inv X pins σ' H' sI := J'.ofTry ok
    have sky' : Sky B (X.env :: X.outer) a (Zc cls d) X.env.locals s'.heap := by rw [← hs]; exact sky
    show wpAny (model X.prog X.w) X.A (noteFrame (.ref a) X.env) _ _ _
    refine Sky.land Zc.steady hfr hf sky' fun h3 fl3 up3 => ?_
    have J3 : Inv X pins σ' H' { s' with heap := h3 } := J.landed nb fl3.1 (up.trans up3) os ag
    obtain ⟨oe3, vs3, he3, hz3, hd3⟩ := fl3.there
    have notFr : ∀ {h : Heap} {o : Obj} {vs : Array Value}, h.FunFrames B (X.env :: X.outer) → h.get? a = some o → o.data = .fields vs → a ∉ frs (X.env :: X.outer) := fun {h o vs} ff e dd hm => by
      obtain ⟨_, o', e', hnf⟩ := ff.mem hm
      rw [e] at e'; cases e'
      exact hnf _ dd
    have nfr := notFr fl3.2.2.1 he3 hd3
    have nL : a ≠ X.env.locals := fun z => nfr (List.mem_filterMap.mpr ⟨X.env, List.mem_cons_self, by rw [hf, z]⟩)
    have nF : a ∉ X.fs := fun hm => by
      obtain ⟨e, he, q⟩ := List.mem_filterMap.mp hm
      exact nfr (List.mem_filterMap.mpr ⟨e, List.mem_cons_of_mem _ he, q⟩)
    have S3 := J3.suite he3 hd3 na nL nF
    have go : ∀ {hds' : List ExceptHandler} {l' : List (Value × Nat × (Addr → Value → Option Addr → TS))}, HdsA X hds' l' → wManyA X.K Wout D l' cls d σ' H' →
        wpAny (model X.prog X.w) X.A (handleBy (.ref a) X.env hds') (SP X pins D) X.xe { s' with heap := h3 } := by
      intro hds' l' hk
      induction hk with
      | nil =>
        intro w
        refine wpAny_handleBy_nil ?_
        obtain ⟨k1, k2, k3, oe, vs, T, oT, ts', he, hz, hd, h1, hr⟩ := id fl3
        unfold PySem.passOn
        refine wpAny_bind (wpAny_field he hd h1 ?_)
        rw [if_neg (show ¬ ((Value.ref T == Value.none) = true) from by simp)]
        have fin : wpAny (model X.prog X.w) X.A (setFlight (.ref a) X.env.frame) (fun _ s4 => wpAny (model X.prog X.w) X.A (throw (.ref a) : Sem Flow) (SP X pins D) X.xe s4) X.xe { s' with heap := h3 } := by
          rw [hf]
          refine HandSPX.setFlight_upZ fl3 fun h4 hh4 up4 => wpAny_throw (tk _ _ ?_)
          exact ⟨a, B, sI, pins, σ', H', cls, d, rfl, J, nb, (up.trans up3).trans up4, .inr (.inr (by rw [hs]; exact hh4)), na, os, ag, w⟩
        first
          | exact wpAny_bind (wpAny_pure (wpAny_bind fin))
          | exact wpAny_bind fin
      | @cons x n c i ts b₀ suite np pos' hds2 l2 hi hln hc hsu r ih =>
        intro w
        obtain ⟨b, hb1, hyes, hno⟩ := w
        refine wpAny_handleBy_cons (codeAny_handlers_test ?_) (by intro q; cases q)
        have LT : PySem.W.Looks (model X.prog X.w) h3 (typeOf (.ref a)) cls := fun A Q E s k q => wpAny_typeOf_ref (k _ _ he3) (by rw [hz3.1]; exact q)
        have LM := PySem.W.exm_one (M := model X.prog X.w) (J3.kIn) LT hb1
        have test : ∀ {Q : Value → Shared → Prop} {E : Value → Shared → Prop}, Q c { s' with heap := h3 } → wpAny (model X.prog X.w) (X.A.mark (some (.ref a))) (eval (.Name x np) X.env) Q E { s' with heap := h3 } := fun {Q E} q => by
          obtain ⟨hg, hdbg, hm | ⟨hm, hv, hnn⟩⟩ := hc
          · exact ld_glob (X := X.suite a ((a, oe3) :: (X.pn ++ pins))) S3 hg hm q hdbg
          · exact ld_blt (X := X.suite a ((a, oe3) :: (X.pn ++ pins))) S3 hg hm hv q hnn hdbg
        refine test (LM.here ?_)
        cases b with
        | true =>
          refine codeAny_handlers_suite_as ?_
          refine HandSPX.lands_againZ fl3 fun h4 fl4 up4 => ?_
          have J4 : Inv X pins σ' H' { s' with heap := h4 } := J.landed nb fl4.1 ((up.trans up3).trans up4) os ag
          obtain ⟨oe4, vs4, he4, hz4, hd4⟩ := fl4.there
          have S4 := J4.suite he4 hd4 na nL nF
          refine store_ok (X := X.suite a ((a, oe4) :: (X.pn ++ pins))) (v := .ref a) S4 hN hi (.inl hln) rfl (fun s5 S5 => ?_) (.inr hln)
          refine wpAny_mono ((hsu a oe4 cls d (X.pn ++ pins) hz4 ⟨_, hd4⟩).run [] s5 _ H' _ S5 (hyes rfl a na)) (fun f s6 hsp => ?_) (fun _ _ z => False.elim z)
          have end_ : ∀ {σ6 : St} {H6 : Hp} {Q : Shared → Prop}, Inv (X.suite a ((a, oe4) :: (X.pn ++ pins))) [] σ6 H6 s6 → (∀ s7, Inv X pins (σ6.set i none) H6 s7 → Q s7) →
              wpAny (model X.prog X.w) X.A (do bindName X.env n .none; unbindBehindTheSuite X.env n pos') (fun _ s7 => Q s7) X.xe s6 := fun {σ6 H6 Q} S6 hq => gone_ok (S6.unsuite ok) hN hi hln hq
          cases f with
          | next =>
            obtain ⟨σ6, H6, S6, q6⟩ := hsp
            exact end_ S6 fun s7 J7 => ⟨_, _, J7, q6⟩
          | brk =>
            obtain ⟨σ6, H6, S6, q6⟩ := hsp
            exact end_ S6 fun s7 J7 => ⟨_, _, J7, q6⟩
          | cont =>
            obtain ⟨σ6, H6, S6, q6⟩ := hsp
            exact end_ S6 fun s7 J7 => ⟨_, _, J7, q6⟩
          | ret u =>
            obtain ⟨v6, σ6, H6, S6, r6, q6⟩ := hsp
            exact end_ S6 fun s7 J7 => ⟨_, _, _, J7, r6, q6⟩
        | false =>
          show wpAny _ X.A (handleBy (.ref a) X.env hds2) _ _ _
          exact ih (hno rfl)
    exact go hh w
  · cases f with
    | next =>
      obtain ⟨σ', H', J', q⟩ := hsp
      exact wpAny_execs_nil ⟨σ', H', J'.ofTry ok, q⟩
    | brk =>
      obtain ⟨σ', H', J', q⟩ := hsp
      exact ⟨σ', H', J'.ofTry ok, q⟩
    | cont =>
      obtain ⟨σ', H', J', q⟩ := hsp
      exact ⟨σ', H', J'.ofTry ok, q⟩
    | ret u =>
      obtain ⟨v, σ', H', J', r, q⟩ := hsp
      exact ⟨v, σ', H', J'.ofTry ok, r, q⟩
end
end L2
namespace Nb
open PySem PySem.Spec PyProof.Rows L2
/-- try: body / except x: suite that raises on -/
def sTryOnly (cs : List Nat) (body suite : SM) : SM := fun env h => match body env h with
  | .exc c l e h1 => if cs.contains c = true then suite e h1 else .exc c l e h1
  | x => x
/-- the classes that a clause catches -/
def CatchOk (C : Ctx) (cv : Value) (cs : List Nat) : Prop := ∀ (c : Nat) (Cc : Addr), C.cl c Cc → PySem.W.exmOne C.K (.ref Cc) cv = some (cs.contains c)
theorem ds_tryOnlyX {C : Ctx} {W : WX} {X : Cx} {x : Str} {cv : Value} {cs : List Nat} {body suite : List Stmt} {b₀ : Stmt} {np pos pos' : Pos} {sb ss : SM} (hK : X.K = C.K) (hs : X.stack = X.env :: X.outer) (hf : X.env.frame = some X.env.locals) (hc : Names X x cv) (hcat : CatchOk C cv cs)
    (hpa : ∀ hd : Option Value, PassesOwnAt (model X.prog X.w) (X.A.mark hd) X.A X.env X.xe) (tk : L2.Takes X W)
    (hb : ∀ (W : WX) (pn : List (Addr × Obj)) (xe : Value → Shared → Prop), L2N.Takes (X.tr pn xe) W → PassesOwn (model X.prog X.w) X.A X.env xe → PSs (X.tr pn xe) body (tS C W sb))
    (hsu : ∀ (a : Addr) (oe : Obj) (cls : Value) (d : Option Addr) (pn : List (Addr × Obj)), L2N.Zn cls d oe → (∃ vs, oe.data = .fields vs) → L2.Takes (L2H.suiteX X a ((a, oe) :: pn)) W → L2H.HotC (L2H.suiteX X a ((a, oe) :: pn)) →
      PSs (L2H.suiteX X a ((a, oe) :: pn)) (b₀ :: suite) (tS C W ss)) :
    PS X (.Try body [.ExceptHandler (some (.Name x np)) none (b₀ :: suite) pos'] [] [] pos) (tS C W (sTryOnly cs sb ss)) :=
  PS.imp (L2H.ps_try_onlyX (tb := fun W => tS C W sb) (ts := fun _ _ _ => tS C W ss) hs hf hc hpa tk (fun W pn xe h1 _ h3 => hb W pn xe h1 h3) hsu) fun D s H ⟨mu, env, h, sr, p⟩ => by
    refine ⟨mu, env, h, sr, ?_⟩
    unfold sTryOnly at p
    revert p
    cases sb env h with
    | nx _ _ => exact fun q => q
    | rt _ _ => exact fun q => q
    | bk _ _ => exact fun q => q
    | ct _ _ => exact fun q => q
    | no => exact fun q => q
    | exc c l e1 h1 =>
      intro p mu' cls dx s' H' e' sr' rx
      obtain ⟨Cc, dd, fs, ec, hcl, rx'⟩ := id rx
      subst ec
      refine ⟨cs.contains c, by rw [hK]; exact hcat c Cc hcl, fun hb a na => ?_, fun hb => ?_⟩
      · simp only [hb, if_true] at p
        exact ⟨mu', e1, h1, sr', PostS.shift e' p⟩
      · simp only [hb, Bool.false_eq_true, if_false] at p
        exact p mu' (.ref Cc) dx s' H' e' sr' rx

/-- a field of the caught exception -/
def eXf (a : Nat) (l : Flds) (i : Nat) (f : Str) : EM := fun env h => match env[i]? with
  | some (some (.exn b)) => if a = b then (match l.lookup f with
    | some d => .ok d h
    | none => .no) else .no
  | _ => .no
open Classical in
/-- what a clause does, whatever the exception's address -/
noncomputable def sAny (f : Nat → SF) : SF := if h : ∃ r, ∀ a, f a = r then Classical.choose h else .no
theorem sAny_eq {f : Nat → SF} {r : SF} (h : ∀ a, f a = r) : sAny f = r := by
  have hx : ∃ r, ∀ a, f a = r := ⟨r, h⟩
  unfold sAny
  rw [dif_pos hx]
  exact (Classical.choose_spec hx 0).symm.trans (h 0)
theorem sAny_at {f : Nat → SF} (h : sAny f ≠ .no) (a : Nat) : f a = sAny f := by
  unfold sAny at h ⊢
  split
  · rename_i hx
    exact Classical.choose_spec hx a
  · rename_i hx
    rw [dif_neg hx] at h
    exact absurd rfl h
/-- slot i is gone behind the suite -/
def SF.gone (i : Nat) : SF → SF
  | .nx e h => .nx (e.set i none) h
  | .bk e h => .bk (e.set i none) h
  | .ct e h => .ct (e.set i none) h
  | .rt d h => .rt d h
  | .exc _ _ _ _ => .no
  | .no => .no
/-- a clause: the classes it catches, its name's slot, its suite -/
abbrev Cls := List Nat × Nat × (Nat → Flds → SM)
noncomputable def sHandle (c : Nat) (l : Flds) (e : Env) (h : Hpp) : List Cls → SF
  | [] => .exc c l e h
  | (cs, i, su) :: r => if cs.contains c = true then (if i < e.length then sAny fun a => (su a l (e.set i (some (.exn a))) h).gone i else .no) else sHandle c l e h r
noncomputable def sTryAs (body : SM) (cl : List Cls) : SM := fun env h => match body env h with
  | .exc c l e h1 => sHandle c l e h1 cl
  | x => x
/-- what is known in a clause's suite -/
structure InSuite (C : Ctx) (l : Flds) (a : Addr) (cls : Value) (d : Option Addr) : Prop where
  ex : ∃ (c : Nat) (Cc dd : Addr) (fs : List (Str × V)), cls = .ref Cc ∧ C.cl c Cc ∧ d = some dd ∧ dd ∉ C.mu0 ∧ C.H0 dd = some (.xd fs) ∧ ∀ f x, l.lookup f = some x → x.isRef = false ∧ ∃ v, fs.lookup f = some v ∧ RelD C.K C.cl C.H0 C.mu0 x v
theorem RelE.unset {K : PySem.W.Frag} {cl : Nat → Addr → Prop} {H : Hp} {mu : List Addr} {env : Env} {s : L2.St} {i : Nat} (r : RelE K cl H mu env s) : RelE K cl H mu (env.set i none) (s.set i none) := by
  refine ⟨by simp [r.1], fun j d e => ?_⟩
  by_cases hj : i = j
  · subst hj
    by_cases hl : i < env.length
    · rw [List.getElem?_set_self hl] at e; cases e
    · rw [List.getElem?_eq_none (by simpa using hl)] at e; cases e
  · rw [List.getElem?_set_ne hj] at e
    obtain ⟨v, q1, q2⟩ := r.2 j d e
    exact ⟨v, by rw [List.getElem?_set_ne hj]; exact q1, q2⟩
/-- the clauses and what they do -/
inductive HdsD (C : Ctx) (X : Cx) : List ExceptHandler → List Cls → Prop
  | nil : HdsD C X [] []
  | cons {x n : Str} {cv : Value} {i : Nat} {cs : List Nat} {su : Nat → Flds → SM} {b₀ : Stmt} {suite : List Stmt} {np pos' : Pos} {hds : List ExceptHandler} {l : List Cls} (hi : X.N[i]? = some n) (hln : X.env.kindOf n = some .local) (hc : Names X x cv) (hcat : CatchOk C cv cs)
      (hsu : ∀ (H0 : Hp) (mu0 : List Addr) (fl : Flds) (a : Addr) (oe : Obj) (cls : Value) (d : Option Addr) (pn : List (Addr × Obj)), InSuite ⟨C.K, C.cl, H0, mu0⟩ fl a cls d → Zc cls d oe → (∃ vs, oe.data = .fields vs) → PSs (X.suite a ((a, oe) :: pn)) (b₀ :: suite) (tS ⟨C.K, C.cl, H0, mu0⟩ WNo (su a fl)))
      (r : HdsD C X hds l) : HdsD C X (.ExceptHandler (some (.Name x np)) (some n) (b₀ :: suite) pos' :: hds) ((cs, i, su) :: l)
def tsOf (C : Ctx) (i : Nat) (su : Nat → Flds → SM) : Addr → Value → Option Addr → TS := fun a cls d D s H => ∃ (H0 : Hp) (mu0 : List Addr) (fl : Flds), InSuite ⟨C.K, C.cl, H0, mu0⟩ fl a cls d ∧ tS ⟨C.K, C.cl, H0, mu0⟩ WNo (su a fl) D s H
inductive SameL (C : Ctx) : List Cls → List (Value × Nat × (Addr → Value → Option Addr → TS)) → Prop
  | nil : SameL C [] []
  | cons {cv : Value} {i : Nat} {cs : List Nat} {su : Nat → Flds → SM} {l : List Cls} {l' : List (Value × Nat × (Addr → Value → Option Addr → TS))} (hcat : CatchOk C cv cs) (r : SameL C l l') : SameL C ((cs, i, su) :: l) ((cv, i, tsOf C i su) :: l')
theorem HdsD.same {C : Ctx} {X : Cx} : ∀ {hds : List ExceptHandler} {l : List Cls}, HdsD C X hds l → ∃ l', HdsA X hds l' ∧ SameL C l l'
  | _, _, .nil => ⟨[], .nil, .nil⟩
  | _, _, .cons hi hln hc hcat hsu r => by
    obtain ⟨l', h1, h2⟩ := HdsD.same r
    refine ⟨_, .cons hi hln hc (fun a oe cls d pn hz hf => ?_) h1, .cons hcat h2⟩
    exact ⟨fun pins s σ H D I ⟨H0, mu0, fl, ins, q⟩ => (hsu H0 mu0 fl a oe cls d pn ins hz hf).run pins s σ H D I q⟩
theorem handle_sim {C : Ctx} {W : WX} {H : Hp} {mu : List Addr} {c : Nat} {l : Flds} {e1 : Env} {h1 : Hpp} {D : Ends} {cls : Value} {dx : Option Addr} {s' : L2.St} {H' : Hp} {mu' : List Addr} (e' : Ext H mu H' mu') (sr' : SR C mu' e1 h1 s' H') (rx : RelX C.K C.cl H' mu' c l cls dx) :
    ∀ {cl : List Cls} {l' : List (Value × Nat × (Addr → Value → Option Addr → TS))}, SameL C cl l' → PostS C W H mu (sHandle c l e1 h1 cl) D → wManyA C.K W D l' cls dx s' H'
  | _, _, .nil, p => p mu' cls dx s' H' e' sr' rx
  | _, _, @SameL.cons _ cv i cs su cl l' hcat r, p => by
    obtain ⟨Cc, dd, fs, ec, hcl, hdx, hdn, hfs, hfl⟩ := id rx
    subst ec
    refine ⟨cs.contains c, hcat c Cc hcl, fun hb a na => ?_, fun hb => ?_⟩
    · unfold sHandle at p
      rw [if_pos hb] at p
      split at p
      · rename_i hi
        have hne : sAny (fun a => (su a l (e1.set i (some (.exn a))) h1).gone i) ≠ .no := fun z => by
          rw [z] at p; exact p
        have hat := sAny_at hne a
        rw [← hat] at p
        refine ⟨H', mu', l, ⟨c, Cc, dd, fs, rfl, hcl, hdx, hdn, hfs, hfl⟩, mu', e1.set i (some (.exn a)), h1, ⟨.refl, sr'.hp, sr'.en.set (.exn a)⟩, ?_⟩
        have p2 := PostS.shift e' p
        revert p2
        cases su a l (e1.set i (some (.exn a))) h1 with
        | nx e2 h2 => exact fun p2 mu2 s2 H2 x2 sr2 => p2 mu2 _ H2 x2 ⟨sr'.ext.trans x2, sr2.hp, sr2.en.unset⟩
        | bk e2 h2 => exact fun p2 mu2 s2 H2 x2 sr2 => p2 mu2 _ H2 x2 ⟨sr'.ext.trans x2, sr2.hp, sr2.en.unset⟩
        | ct e2 h2 => exact fun p2 mu2 s2 H2 x2 sr2 => p2 mu2 _ H2 x2 ⟨sr'.ext.trans x2, sr2.hp, sr2.en.unset⟩
        | rt d h2 => exact fun p2 mu2 v H2 x2 x3 rp rd => p2 mu2 v H2 x2 (sr'.ext.trans x2) rp rd
        | exc _ _ _ _ => exact fun p2 => p2.elim
        | no => exact fun p2 => p2
      · exact p.elim
    · refine handle_sim e' sr' rx r ?_
      unfold sHandle at p
      rw [if_neg (by rw [hb]; exact Bool.false_ne_true)] at p
      exact p
theorem ds_tryAs {C : Ctx} {W : WX} {X : Cx} {body : List Stmt} {h₀ : ExceptHandler} {hds : List ExceptHandler} {l : List Cls} {pos : Pos} {sb : SM} (hK : X.K = C.K) (hs : X.stack = X.env :: X.outer) (hf : X.env.frame = some X.env.locals) (hN : X.N.Nodup) (tk : L2.Takes X W)
    (hb : ∀ (W : WX) (pn : List (Addr × Obj)) (xe : Value → Shared → Prop), L2.Takes (X.tr pn xe) W → PassesOwn (model X.prog X.w) X.A X.env xe → PSs (X.tr pn xe) body (tS C W sb))
    (hh : HdsD C X (h₀ :: hds) l) : PS X (.Try body (h₀ :: hds) [] [] pos) (tS C W (sTryAs sb l)) := by
  obtain ⟨l', k1, k2⟩ := hh.same
  refine PS.imp (ps_try_manyA (tb := fun W => tS C W sb) hs hf hN tk hb k1) fun D s H ⟨mu, env, h, sr, p⟩ => ?_
  refine ⟨mu, env, h, sr, ?_⟩
  unfold sTryAs at p
  rw [hK]
  revert p
  cases sb env h with
  | nx _ _ => exact fun q => q
  | rt _ _ => exact fun q => q
  | bk _ _ => exact fun q => q
  | ct _ _ => exact fun q => q
  | no => exact fun q => q
  | exc c fl e1 h1 => exact fun p mu' cls dx s' H' e' sr' rx => handle_sim e' sr' rx k2 p
/-- a field of the exception in its suite -/
theorem de_xf {C : Ctx} {X : Cx} {a : Addr} {oe : Obj} {cls : Value} {d : Option Addr} {pn : List (Addr × Obj)} {e : Expr} {i : Nat} {fl : Flds} {f : Str} {pos : Pos} (hK : X.K = C.K) (ins : InSuite C fl a cls d) (T : ∀ c Cc, C.cl c Cc → XfC C.K Cc) (hno : ∀ c Cc, C.cl c Cc → PySem.W.findIn C.K (.ref Cc) f = some none)
    (hz : Zc cls d oe) (hf : ∃ vs, oe.data = .fields vs) (he : PE (X.suite a ((a, oe) :: pn)) e (tVar i)) (hb : attributeBase e f X.env (eval e X.env) = eval e X.env) : PE (X.suite a ((a, oe) :: pn)) (.Attribute e f pos) (tE C WNo (eXf a fl i f)) := by
  obtain ⟨c, Cc, dd, fs, ec, hcl, ed, hdn, hfs, hfl⟩ := ins.ex
  refine PE.imp (pe_xf (C := Cc) (by rw [hK]; exact T c Cc hcl) (by rw [hK]; exact hno c Cc hcl) hz hf he hb) fun s H Q ⟨mu, env, h, sr, p⟩ => ?_
  unfold eXf at p
  split at p
  · rename_i b hsl
    split at p
    · rename_i hab
      subst hab
      split at p
      · rename_i d' hd
        obtain ⟨hr, v, hv, rd⟩ := hfl f d' hd
        obtain ⟨w, hw, rw'⟩ := sr.en.2 i _ hsl
        cases rw'
        exact ⟨.ref a, hw, rfl, ec, dd, fs, v, ed, sr.ext.frz dd _ hdn hfs fun x => nofun, hv, p mu v H .refl sr.hp (rd.ext sr.ext)⟩
      · exact p.elim
    · exact p.elim
  · exact p.elim
end Nb
end
section
set_option Elab.async false
set_option linter.all false
set_option maxRecDepth 100000
set_option maxHeartbeats 1000000
namespace Nb
open PySem PySem.Spec PyProof.Rows L2
section
variable {K : PySem.W.Frag} {cl : Nat → Addr → Prop} {H : Hp} {mu mu' : List Addr}
theorem FzL.sub (hs : ∀ a ∈ mu', a ∈ mu) {a : Addr} {vs : List V} (x : FzL K H mu a vs) : FzL K H mu' a vs := x.elim (fun z => .inl ⟨fun m => z.1 (hs _ m), z.2⟩) .inr
theorem FzT.sub (hs : ∀ a ∈ mu', a ∈ mu) {a : Addr} {vs : List V} (x : FzT K H mu a vs) : FzT K H mu' a vs := x.elim (fun z => .inl ⟨fun m => z.1 (hs _ m), z.2⟩) .inr
theorem ObjAt.sub (hs : ∀ a ∈ mu', a ∈ mu) {a C dx : Addr} {vs : List (Option V)} (x : ObjAt H mu a C dx vs) : ObjAt H mu' a C dx vs := by
  obtain ⟨h0, z | ⟨h1, z⟩⟩ := x
  · exact ⟨fun m => h0 (hs _ m), .inl z⟩
  · exact ⟨fun m => h0 (hs _ m), .inr ⟨fun m => h1 (hs _ m), z⟩⟩
mutual
theorem RelD.sub (hs : ∀ a ∈ mu', a ∈ mu) : ∀ {d : D} {v : V}, d.isRef = false → RelD K cl H mu d v → RelD K cl H mu' d v
  | _, _, _, .non => .non
  | _, _, _, .bl b => .bl b
  | _, _, _, .int b => .int b
  | _, _, _, .str b => .str b
  | _, _, _, .tup h z r => .tup (h.sub hs) z (RelL.sub hs r)
  | _, _, _, .lst h q z r => .lst (fun m => h (hs _ m)) q z (RelL.sub hs r)
  | _, _, _, .frl h z r => .frl (h.sub hs) z (RelL.sub hs r)
  | _, _, _, .rng h r => .rng (fun m => h (hs _ m)) r
  | _, _, _, .obj h r q => .obj h (r.sub hs) (RelO.sub hs q)
  | _, _, _, .ty n => .ty n
  | _, _, _, .cls h => .cls h
  | _, _, _, .exn a => .exn a
  | _, _, z, .ref h => by cases z
theorem RelL.sub (hs : ∀ a ∈ mu', a ∈ mu) : ∀ {d : List D} {v : List V}, RelL K cl H mu d v → RelL K cl H mu' d v
  | _, _, .nil => .nil
  | _, _, .cons h n r => .cons (RelD.sub hs n h) n (RelL.sub hs r)
theorem RelO.sub (hs : ∀ a ∈ mu', a ∈ mu) : ∀ {d : List (Option D)} {v : List (Option V)}, RelO K cl H mu d v → RelO K cl H mu' d v
  | _, _, .nil => .nil
  | _, _, .none r => .none (RelO.sub hs r)
  | _, _, .some h n r => .some (RelD.sub hs n h) n (RelO.sub hs r)
end
theorem RelC.sub (hs : ∀ a ∈ mu', a ∈ mu) {c : Cell} {a : Addr} (r : RelC K cl H mu c a) : RelC K cl H mu' c a := by
  cases c with
  | lst l => obtain ⟨vs, e, z, q⟩ := r; exact ⟨vs, e, z, q.sub hs⟩
  | ins c l =>
    obtain ⟨C, dx, vs, h1, h2, h3, h4, h5, h6⟩ := r
    exact ⟨C, dx, vs, h1, h2, fun m => h3 (hs _ m), h4, h5, h6.sub hs⟩
/-- the youngest cells forgotten, but for one -/
theorem RepH.pick {nu : List Addr} {h : Hpp} {n : Nat} {a : Addr} {c : Cell} (r : RepH K cl H (mu ++ nu) h) (hn : mu.length ≤ n) (ha : (mu ++ nu)[n]? = some a) (hc : h[n]? = some c) : a ∉ mu ∧ RepH K cl H (mu ++ [a]) (h.take mu.length ++ [c]) := by
  have hlen := r.len
  rw [List.length_append] at hlen
  have han : a ∈ nu := by
    rw [List.getElem?_append_right hn] at ha
    exact List.mem_of_getElem? ha
  have hnd := List.nodup_append.mp r.nd
  have hnm : a ∉ mu := fun m => hnd.2.2 a m a han rfl
  have hs : ∀ b ∈ mu ++ [a], b ∈ mu ++ nu := fun b hb => by
    rcases List.mem_append.mp hb with z | z
    · exact List.mem_append_left _ z
    · have : b = a := by simpa using z
      subst this; exact List.mem_append_right _ han
  refine ⟨hnm, by simp; omega, ?_, fun m b c' e e' => ?_⟩
  · rw [List.nodup_append]
    refine ⟨hnd.1, by simp, fun x hx y hy e => ?_⟩
    have : y = a := by simpa using hy
    subst this; subst e; exact hnm hx
  · have htl : (h.take mu.length).length = mu.length := by rw [List.length_take]; omega
    by_cases hm : m < mu.length
    · rw [List.getElem?_append_left hm] at e
      rw [List.getElem?_append_left (by rw [htl]; exact hm), List.getElem?_take_of_lt hm] at e'
      exact (r.cells m b c' (by rw [List.getElem?_append_left hm]; exact e) e').sub hs
    · rw [List.getElem?_append_right (by omega)] at e
      rw [List.getElem?_append_right (by rw [htl]; omega), htl] at e'
      have z : m - mu.length = 0 := by
        have := (List.getElem?_eq_some_iff.mp e).1
        simp only [List.length_cons, List.length_nil] at this; omega
      rw [z] at e e'
      have e1 : a = b := by simpa using e
      have e2 : c = c' := by simpa using e'
      subst e1; subst e2
      exact (r.cells n a c ha hc).sub hs
end

/-- the value handed back: a young list cell is frozen, or (md) kept as the youngest -/
def finR (md : Bool) (k : Nat) (d : D) (h : Hpp) : R D := match d with
  | .ref n => if n < k then .ok (.ref n) (h.take k) else match h[n]? with
    | some (.lst l) => if md = true then .ok (.ref k) (h.take k ++ [.lst l]) else .ok (.lst l) (h.take k)
    | some (.ins c l) => if md = true then .ok (.ref k) (h.take k ++ [.ins c l]) else .no
    | none => .no
  | d => .ok d (h.take k)
def env0 (N : Nat) (ds : List D) : Env := ds.map some ++ List.replicate (N - ds.length) none
def fnM (N : Nat) (md : Bool) (sm : SM) : FM := fun ds h => match sm (env0 N ds) h with
  | .nx _ h' => .ok .non (h'.take h.length)
  | .rt d h' => finR md h.length d h'
  | .exc c l _ h' => .exc c l (h'.take h.length)
  | _ => .no
def spF (K : PySem.W.Frag) (cl : Nat → Addr → Prop) (n : Nat) (F : FM) : Sp := fun vs H Q E => vs.length = n ∧ ∃ mu ds h, RepH K cl H mu h ∧ RelA ⟨K, cl, H, mu⟩ H mu ds vs ∧ Post ⟨K, cl, H, mu⟩ H mu (RlD ⟨K, cl, H, mu⟩) (F ds h) Q E
theorem relE_start {K : PySem.W.Frag} {cl : Nat → Addr → Prop} {H : Hp} {mu : List Addr} {C : Ctx} {N : List Str} {ds : List D} {vs : List V} (hK : C.K = K) (hcl : C.cl = cl) (r : RelA C H mu ds vs) : RelE K cl H mu (env0 N.length ds) (L2.start N vs) := by
  subst hK; subst hcl
  have hl := RelA.len r
  refine ⟨by simp [env0, L2.start, hl], fun i d e => ?_⟩
  unfold env0 at e
  by_cases hi : i < ds.length
  · rw [List.getElem?_append_left (by simpa using hi)] at e
    simp only [List.getElem?_map, Option.map_eq_some_iff, Option.some.injEq] at e
    obtain ⟨d', e1, e2⟩ := e
    subst e2
    obtain ⟨v, e3, e4⟩ := paired_get r e1
    refine ⟨v, ?_, e4⟩
    unfold L2.start
    rw [List.getElem?_append_left (by rw [List.length_map, ← hl]; exact hi)]
    simp [e3]
  · rw [List.getElem?_append_right (by simpa using hi)] at e
    have := List.mem_of_getElem? e
    simp at this
theorem body_post {K : PySem.W.Frag} {cl : Nat → Addr → Prop} {H : Hp} {mu : List Addr} {ds : List D} {h : Hpp} {N : List Str} {md : Bool} {sm : SM} {Q : VK} {E : XK} {vs : List V} (rp : RepH K cl H mu h) (ra : RelA ⟨K, cl, H, mu⟩ H mu ds vs) (p : Post ⟨K, cl, H, mu⟩ H mu (RlD ⟨K, cl, H, mu⟩) (fnM N.length md sm ds h) Q E) :
    tS ⟨K, cl, H, mu⟩ (fun cls dx _ H' => E cls dx H') sm { nx := fun _ H' => Q .non H', rt := Q } (L2.start N vs) H := by
  refine ⟨mu, env0 N.length ds, h, ⟨.refl, rp, relE_start rfl rfl ra⟩, ?_⟩
  have hl := rp.len
  unfold fnM at p
  revert p
  cases sm (env0 N.length ds) h with
  | nx e h' =>
    intro p mu2 s' H' x sr
    obtain ⟨nu, e1⟩ := x.pre
    subst e1
    have rc := sr.hp.cut
    rw [hl] at rc
    exact p mu .non H' x.cut rc .non
  | rt d h' =>
    intro p mu2 v H' x _ rp2 rd
    obtain ⟨nu, e1⟩ := x.pre
    subst e1
    have rc := rp2.cut
    rw [hl] at rc
    by_cases hr : d.isRef = false
    · have e2 : finR md h.length d h' = .ok d (h'.take h.length) := by
        cases d <;> first | rfl | cases hr
      simp only [e2] at p
      exact p mu v H' x.cut rc (rd.cut hr)
    · cases d with
      | ref n =>
        cases rd with
        | @ref _ a hn =>
          simp only [finR] at p
          split at p
          · rename_i hlt
            exact p mu _ H' x.cut rc (.ref (by rw [List.getElem?_append_left (by rw [hl]; exact hlt)] at hn; exact hn))
          · rename_i hge
            have hge' : mu.length ≤ n := by rw [hl]; exact Nat.not_lt.mp hge
            split at p
            · rename_i l hc
              obtain ⟨k1, k2⟩ := rp2.pick hge' hn hc
              rw [hl] at k2
              split at p
              · refine p (mu ++ [a]) _ H' ⟨⟨[a], rfl⟩, fun b hb hnb => x.new b ?_ hnb, x.frz⟩ k2 (.ref (by rw [← hl]; simp))
                rcases List.mem_append.mp hb with z | z
                · exact List.mem_append_left _ z
                · have : b = a := by simpa using z
                  subst this; exact List.mem_of_getElem? hn
              · obtain ⟨vs', w, z, q⟩ := rp2.cellAt hn hc
                exact p mu _ H' x.cut rc (.lst k1 w z q.cut)
            · rename_i c l hc
              obtain ⟨k1, k2⟩ := rp2.pick hge' hn hc
              rw [hl] at k2
              split at p
              · refine p (mu ++ [a]) _ H' ⟨⟨[a], rfl⟩, fun b hb hnb => x.new b ?_ hnb, x.frz⟩ k2 (.ref (by rw [← hl]; simp))
                rcases List.mem_append.mp hb with z | z
                · exact List.mem_append_left _ z
                · have : b = a := by simpa using z
                  subst this; exact List.mem_of_getElem? hn
              · exact p.elim
            · exact p.elim
      | _ => exact absurd rfl hr
  | exc c l e h' =>
    intro p mu2 cls dx s' H' x sr rx
    obtain ⟨nu, e1⟩ := x.pre
    subst e1
    have rc := sr.hp.cut
    rw [hl] at rc
    exact p mu cls dx H' x.cut rc rx.cut
  | bk e h' => exact fun p => p.elim
  | ct e h' => exact fun p => p.elim
  | no => exact fun p => p.elim
section
variable {P : Program} {w : World} {K : PySem.W.Frag} {cl : Nat → Addr → Prop} {mg : Str → Option Value} {base : Heap} {x qual : Str} {params : Arguments} {body : List Stmt} {scope : Scope} {dvs : List V} {kws : List (Str × V)} {f : Addr} {fd : FuncData} {N ps : List Str} {k : Nat} {sm : SM}
/-- a def that lets out any exception -/
theorem fn_hot (md : Bool) (F : FunD K x qual params body scope dvs kws f fd) (S : FnScope N ps scope)
    (hb : ∀ (H0 : Hp) (mu0 : List Addr) (W : WX) (cdv : Value) (A : Around) (outer : List PySem.Env) (s : Shared) (H : Hp) (E : XK), Room k (A.deeper (envOfC qual scope s.heap.objs.size f cdv)) →
      L2.Takes (cxOf (L2.CX P w) P w K mg base N qual scope f cdv A outer s H E) W → PSs (cxOf (L2.CX P w) P w K mg base N qual scope f cdv A outer s H E) body (tS ⟨K, cl, H0, mu0⟩ W sm)) :
    FnOk P w K mg base (L2.CX P w) (k + 1) f fd ps (spF K cl ps.length (fnM N.length md sm)) := by
  refine F.ok S (fun vs H Q E h => h.1) fun cdv A outer s H vs Q E hr h => ?_
  obtain ⟨hl, mu, ds, h, rp, ra, p⟩ := h
  exact ⟨_, hb H mu (fun cls dx _ H' => E cls dx H') cdv A outer s H E hr (L2.takes_of rfl rfl rfl rfl), body_post rp ra p⟩
/-- a def that lets out exceptions without context alone -/
theorem fn_cold (md : Bool) (F : FunD K x qual params body scope dvs kws f fd) (S : FnScope N ps scope)
    (hb : ∀ (H0 : Hp) (mu0 : List Addr) (W : WX) (cdv : Value) (A : Around) (outer : List PySem.Env) (s : Shared) (H : Hp) (E : XK), Room k (A.deeper (envOfC qual scope s.heap.objs.size f cdv)) →
      L2N.Takes (cxOf (L2N.CX P w) P w K mg base N qual scope f cdv A outer s H E) W → PSs (cxOf (L2N.CX P w) P w K mg base N qual scope f cdv A outer s H E) body (tS ⟨K, cl, H0, mu0⟩ W sm)) :
    FnOk P w K mg base (L2N.CX P w) (k + 1) f fd ps (spF K cl ps.length (fnM N.length md sm)) := by
  refine F.ok S (fun vs H Q E h => h.1) fun cdv A outer s H vs Q E hr h => ?_
  obtain ⟨hl, mu, ds, h, rp, ra, p⟩ := h
  exact ⟨_, hb H mu (fun cls dx _ H' => E cls dx H') cdv A outer s H E hr (L2N.takes_of rfl rfl rfl rfl), body_post rp ra p⟩
end

def eFn (n : Nat) (F : FM) (ml : M (List D)) : EM := fun env h => (ml env h).bind fun ds h1 => if ds.length = n then F ds h1 else .no
/-- some parameters have their defaults -/
def eFnD (n : Nat) (F : FM) (dds : List D) (ml : M (List D)) : EM := fun env h => (ml env h).bind fun ds h1 => if (ds ++ dds).length = n then F (ds ++ dds) h1 else .no
/-- keywords behind the positional ones -/
def eFnK (n m : Nat) (F : FM) (ml mk : M (List D)) : EM := fun env h => (ml env h).bind fun ds h1 => (mk env h1).bind fun ks h2 => if ds.length = n ∧ ks.length = m then F (ds ++ ks) h2 else .no
section
variable {X : Cx} {CX : CXT} {k n : Nat} {f : Addr} {fd : FuncData} {ps ks : List Str} {sp : Sp} {E : L2.St → XK} {x : Str} {p pos : Pos} {e : Expr} {es : List Expr} {kws : List Keyword} {t tk : TA} {g : List Value → List Value → List Value} {gV : List V → List V → List V}
def tCallNS (n m : Nat) (sp : Sp) (gV : List V → List V → List V) (E : L2.St → XK) (t tk : TA) : TE := fun σ H Q => t σ H fun vs H1 => tk σ H1 fun zs H2 => vs.length = n ∧ zs.length = m ∧ sp (gV vs zs) H2 Q (E σ)
/-- f(e, .., k = v, ..), what is raised wished for at the caller's slots -/
theorem pe_callNS (F : FnOk X.prog X.w X.K X.mg X.base CX k f fd ps sp) (hr : Room k X.A) (hg : Gl X x) (hm : X.mg x = some (.ref f)) (hk : PySem.W.keepIn X.K (.ref f) = true) (hb : KBn X.K fd ps n ks g gV) (hx : ∀ σ, PassesAt CX X σ (E σ))
    (ha : PA X (e :: es) t) (hkw : PK X kws tk) (hall : (backToKw pos (keywordEach kws X.env)).all (·.1.isSome) = true) (hks : (backToKw pos (keywordEach kws X.env)).filterMap (·.1) = ks)
    (hdb : (x == ("__debug__" : Str)) = false) (he : starEach (e :: es) X.env = (false, eval e X.env) :: starEach es X.env)
    (hpl : ((backTo pos (starEach (e :: es) X.env)).any (·.1) || (backToKw pos (keywordEach kws X.env)).any (·.1.isNone)) = false) :
    PE X (.Call (.Name x p) (e :: es) kws pos) (tCallNS n ks.length sp gV E t tk) := by
  refine ⟨fun pins s σ H Q I h => ?_⟩
  refine wpAny_Call_Name_kw (ld_glob I hg hm ?_ hdb)
  refine PySem.W.callWith_KW (h₀ := X.base) I.ok.mod.kin hk hall (thn (ha.run pos pins s σ H _ I h) fun us s1 ⟨vs, H1, I1, r, q⟩ => ?_) hpl he
  refine thn (hkw.run pos pins s1 σ H1 _ I1 q) fun ws s2 ⟨zs, H2, I2, rz, l1, l2, q2⟩ => ⟨I2.kIn, ?_⟩
  rw [hks]
  have r2 := hb.rel r rz
  refine wpAny_call (codeAny_mono (F.run X.A X.stack s2 H2 ⟨us, ks.zip ws⟩ (g us ws) (gV vs zs) Q (E σ) hr I2.env0 (hb.to s2 us ws I2.kIn (r.length.symm.trans l1) (rz.length.symm.trans l2)) r2 q2) fun r s' hq => ?_)
  cases r with
  | error er => exact hx σ pins H2 s2 er s' I2 hq
  | ok fl =>
    cases fl with
    | ret u => exact I2.after hq
    | next => exact False.elim hq
    | brk => exact False.elim hq
    | cont => exact False.elim hq
theorem PK.imp {X : Cx} {e : List Keyword} {t t' : TA} (h : PK X e t) (i : ∀ s H Q, t' s H Q → t s H Q) : PK X e t' := ⟨fun pos pins s σ H Q I q => h.run pos pins s σ H Q I (i σ H Q q)⟩
end
section
variable {C : Ctx} {W : WX} {X : Cx} {k : Nat} {f : Addr} {fd : FuncData} {ps : List Str} {F : FM} {x : Str} {p pos kpos : Pos} {e : Expr} {es : List Expr} {m : EM} {ml mk : M (List D)} {CX : CXT} {kws : List Keyword} {nm : Option Str}
theorem dk_nil : PK X [] (tA C W aNil) := PK.imp pk_nil fun s H Q ⟨mu, env, h, sr, p⟩ => p mu [] H .refl sr.hp .nil
theorem dk_cons (ha : PE X e (tE C W m)) (hr : PK X kws (tA C W ml)) : PK X (⟨nm, e, kpos⟩ :: kws) (tA C W (aCons m ml)) := PK.imp (pk_cons ha hr) fun s H Q ⟨mu, env, h, sr, p⟩ =>
  tE_bind (m := m) sr p fun v H1 mu1 d h1 sr1 e1 rd1 p1 => tA_bind (m := ml) sr1 p1 fun vs H2 mu2 ds h2 sr2 e2 rd2 p2 => p2 mu2 (v :: vs) H2 .refl sr2.hp (.cons (rd1.ext e2) rd2)
theorem post_ctx {a b : Type} {C C' : Ctx} {H : Hp} {mu : List Addr} {Rl : Hp → List Addr → a → b → Prop} {r : R a} {Q : b → Hp → Prop} {E : XK} (hK : C.K = C'.K) (hcl : C.cl = C'.cl) (p : Post C H mu Rl r Q E) : Post C' H mu Rl r Q E := by
  obtain ⟨K, cl, H0, mu0⟩ := C
  obtain ⟨K', cl', H0', mu0'⟩ := C'
  cases hK; cases hcl
  exact p
theorem sp_of (hK : X.K = C.K) {n : Nat} {H : Hp} {mu : List Addr} {h : Hpp} {ds : List D} {vs : List V} {Q : VK} {E : XK} (rp : RepH C.K C.cl H mu h) (ra : RelA C H mu ds vs) (hl : ds.length = n) (p : Post C H mu (RlD C) (F ds h) Q E) : spF X.K C.cl n F vs H Q E := by
  refine ⟨by rw [← RelA.len ra]; exact hl, mu, ds, h, by rw [hK]; exact rp, by rw [hK]; exact ra, ?_⟩
  rw [hK]
  exact post_ctx rfl rfl p
theorem de_call {n : Nat} (hK : X.K = C.K) (G : FnOk X.prog X.w X.K X.mg X.base CX k f fd ps (spF X.K C.cl n F)) (hr : Room k X.A) (hg : Gl X x) (hm : X.mg x = some (.ref f)) (hk : PySem.W.keepIn X.K (.ref f) = true) (hb : Binds X.K fd ps []) (hx : ∀ σ, PassesAt CX X σ (WE W σ))
    (ha : PA X (e :: es) (tA C W ml)) (hdb : (x == ("__debug__" : Str)) = false) (he : starEach (e :: es) X.env = (false, eval e X.env) :: starEach es X.env) (hpl : (backTo pos (starEach es X.env)).any (·.1) = false) :
    PE X (.Call (.Name x p) (e :: es) [] pos) (tE C W (eFn n F ml)) :=
  PE.imp (pe_callSD (dvs := []) (ds := []) G hr hg hm hk hb .nil hx ha hdb he hpl) fun s H Q ⟨mu, env, h, sr, p⟩ =>
    tA_bind (m := ml) sr p fun vs H1 mu1 ds h1 sr1 e1 ra p1 => by
      split at p1
      · rename_i hl
        rw [List.append_nil]
        exact sp_of hK sr1.hp ra hl p1
      · exact p1.elim
theorem RelA.app {H : Hp} {mu : List Addr} : ∀ {l m : List D} {vs ws : List V}, RelA C H mu l vs → RelA C H mu m ws → RelA C H mu (l ++ m) (vs ++ ws)
  | _, _, _, _, .nil, q => q
  | _, _, _, _, .cons r t, q => .cons r (RelA.app t q)
theorem de_callD {n : Nat} (hK : X.K = C.K) {dds : List D} {dvs : List V} {ds : List Value} (G : FnOk X.prog X.w X.K X.mg X.base CX k f fd ps (spF X.K C.cl n F)) (hr : Room k X.A) (hg : Gl X x) (hm : X.mg x = some (.ref f)) (hk : PySem.W.keepIn X.K (.ref f) = true) (hb : Binds X.K fd ps ds) (hd : Vals dvs ds) (hdd : ∀ H mu, RelA C H mu dds dvs) (hx : ∀ σ, PassesAt CX X σ (WE W σ))
    (ha : PA X (e :: es) (tA C W ml)) (hdb : (x == ("__debug__" : Str)) = false) (he : starEach (e :: es) X.env = (false, eval e X.env) :: starEach es X.env) (hpl : (backTo pos (starEach es X.env)).any (·.1) = false) :
    PE X (.Call (.Name x p) (e :: es) [] pos) (tE C W (eFnD n F dds ml)) :=
  PE.imp (pe_callSD G hr hg hm hk hb hd hx ha hdb he hpl) fun s H Q ⟨mu, env, h, sr, p⟩ =>
    tA_bind (m := ml) sr p fun vs H1 mu1 ds h1 sr1 e1 ra p1 => by
      split at p1
      · rename_i hl
        exact sp_of hK sr1.hp (ra.app (hdd _ _)) hl p1
      · exact p1.elim
theorem de_callK {n m N : Nat} {ks : List Str} (hK : X.K = C.K) (G : FnOk X.prog X.w X.K X.mg X.base CX k f fd ps (spF X.K C.cl N F)) (hr : Room k X.A) (hg : Gl X x) (hm : X.mg x = some (.ref f)) (hk : PySem.W.keepIn X.K (.ref f) = true) (hb : KBn X.K fd ps n ks (fun us ws => us ++ ws) (fun us ws => us ++ ws)) (hx : ∀ σ, PassesAt CX X σ (WE W σ))
    (ha : PA X (e :: es) (tA C W ml)) (hkw : PK X kws (tA C W mk)) (hn : n + m = N) (hm2 : ks.length = m) (hall : (backToKw pos (keywordEach kws X.env)).all (·.1.isSome) = true) (hks : (backToKw pos (keywordEach kws X.env)).filterMap (·.1) = ks)
    (hdb : (x == ("__debug__" : Str)) = false) (he : starEach (e :: es) X.env = (false, eval e X.env) :: starEach es X.env)
    (hpl : ((backTo pos (starEach (e :: es) X.env)).any (·.1) || (backToKw pos (keywordEach kws X.env)).any (·.1.isNone)) = false) :
    PE X (.Call (.Name x p) (e :: es) kws pos) (tE C W (eFnK n m F ml mk)) :=
  PE.imp (pe_callNS G hr hg hm hk hb hx ha hkw hall hks hdb he hpl) fun s H Q ⟨mu, env, h, sr, p⟩ =>
    tA_bind (m := ml) sr p fun vs H1 mu1 ds h1 sr1 e1 ra p1 => tA_bind (m := mk) sr1 p1 fun ws H2 mu2 zs h2 sr2 e2 rz p2 => by
      split at p2
      · rename_i hl
        exact ⟨by rw [← RelA.len ra]; exact hl.1, by rw [← RelA.len rz, hm2]; exact hl.2, sp_of hK sr2.hp ((RelA.ext e2 ra).app rz) (by rw [List.length_append, hl.1, hl.2]; exact hn) p2⟩
      · exact p2.elim
end
end Nb
end
section
set_option Elab.async false
set_option linter.all false
set_option maxRecDepth 100000
set_option maxHeartbeats 1000000
namespace Nb
open PySem PySem.Spec PyProof.Rows L2
abbrev Pd := PySem.W.Frag → Bool
/-- an own exception class over Exception whose __init__ keeps one field f -/
def excB (x f : Str) : Pd := fun K => (match K.lookup (He.ga K x) with
  | some ⟨.type t, dd, .cls ⟨nm, bs, .ref C :: bm, N, q, true, sn, sub, ab, col, false⟩, ⟨[k0, k1, k2, k3, some (.builtin id), k5]⟩⟩ => decide (t = "type") && (decide (C = He.ga K x) && (PySem.NEX.refsEX bm && decide (id = "Exception.__new__")))
  | _ => false) && (decide (PySem.W.findIn K (.ref (He.ga K x)) "__setattr__" = some (some (.builtin "object.__setattr__"))) && (decide (PySem.W.subIn K (.ref (He.ga K x)) (.type "BaseException") = some true) && (decide (PySem.W.typeIn K (.ref (He.ga K x)) = some (.type "type")) && (PySem.W.keepIn K (.ref (He.ga K x)) &&
    (decide (PySem.W.findIn K (.ref (He.ga K x)) "__init__" = some (some (.ref (He.ma K (He.ga K x) "__init__")))) && (decide (PySem.W.typeIn K (.ref (He.ma K (He.ga K x) "__init__")) = some (.type "function")) && decide (PySem.W.findIn K (.ref (He.ga K x)) f = some none)))))))
structure ExcF (K : PySem.W.Frag) (x f : Str) : Prop where
  oex : OexE K (He.ga K x)
  ini : PySem.W.findIn K (.ref (He.ga K x)) "__init__" = some (some (.ref (He.ma K (He.ga K x) "__init__")))
  tI : PySem.W.typeIn K (.ref (He.ma K (He.ga K x) "__init__")) = some (.type "function")
  hno : PySem.W.findIn K (.ref (He.ga K x)) f = some none
theorem excB_ok {K : PySem.W.Frag} {x f : Str} (h : excB x f K = true) : ExcF K x f := by
  unfold excB at h
  simp only [Bool.and_eq_true, decide_eq_true_eq] at h
  obtain ⟨h0, h1, h2, h3, h4, h5, h6, h7⟩ := h
  refine ⟨⟨?_, h1, h2, h3, h4⟩, h5, h6, h7⟩
  split at h0
  · rename_i t dd nm bs C bm N q sn sub ab col k0 k1 k2 k3 id k5 e
    simp only [Bool.and_eq_true, decide_eq_true_eq] at h0
    obtain ⟨e1, e2, e3, e4⟩ := h0
    subst e1; subst e2; subst e4
    exact ⟨nm, q, N, bs, bm, sn, sub, ab, col, dd, k0, k1, k2, k3, k5, e, e3⟩
  · cases h0
/-- fields of caught exceptions may be read -/
def xfP (x f : Str) : Pd := fun K => xfB K (He.ga K x) && decide (PySem.W.findIn K (.ref (He.ga K x)) f = some none)
/-- the class names, by their numbers -/
def clK (names : List Str) (K : PySem.W.Frag) : Nat → Addr → Prop := fun c C => ∃ x, names[c]? = some x ∧ C = He.ga K x
/-- a clause of this class catches these -/
def catB (names : List Str) (y : Str) (cs : List Nat) : Pd := fun K => (names.zipIdx).all fun p => decide (PySem.W.exmOne K (.ref (He.ga K p.1)) (.ref (He.ga K y)) = some (cs.contains p.2))
theorem catB_ok {names : List Str} {y : Str} {cs : List Nat} {K : PySem.W.Frag} {C : Ctx} (hK : C.K = K) (hcl : C.cl = clK names K) (h : catB names y cs K = true) : CatchOk C (.ref (He.ga K y)) cs := by
  intro c Cc hc
  rw [hcl] at hc
  obtain ⟨x, e1, e2⟩ := hc
  subst e2
  rw [hK]
  have hm : (x, c) ∈ names.zipIdx := by
    rw [List.mem_iff_getElem?]
    exact ⟨c, by rw [List.getElem?_zipIdx, e1]; simp⟩
  exact of_decide_eq_true (List.all_eq_true.mp h _ hm)
/-- all classes -/
def allB (names : List Str) (p : Str → Pd) : Pd := fun K => names.all fun x => p x K
theorem allB_ok {names : List Str} {p : Str → Pd} {K : PySem.W.Frag} (h : allB names p K = true) {c : Nat} {C : Addr} (hc : clK names K c C) : ∃ x, C = He.ga K x ∧ p x K = true := by
  obtain ⟨x, e1, e2⟩ := hc
  exact ⟨x, e2, List.all_eq_true.mp h x (List.mem_of_getElem? e1)⟩
theorem xfP_ok {x f : Str} {K : PySem.W.Frag} (h : xfP x f K = true) : XfC K (He.ga K x) ∧ PySem.W.findIn K (.ref (He.ga K x)) f = some none := by
  unfold xfP at h
  rw [Bool.and_eq_true, decide_eq_true_eq] at h
  exact ⟨xfB_ok h.1, h.2⟩

abbrev AlN : Type := Bool × He.AlD
def obsN (ps : List Pd) (fa : List He.Fa) (fn : List He.DefD) (K : PySem.W.Frag) : AlN := (ps.all fun p => p K, He.obsD fa fn K)
def obsNG (n : Nat) (ps : List Pd) (fa : List He.Fa) (fn : List He.DefD) (g : Addr → Option Obj) : AlN := obsN ps fa fn (He.frG g (He.asD g n))
def SaysN (ps : List Pd) (fa : List He.Fa) (fn : List He.DefD) (K : PySem.W.Frag) : Prop := obsN ps fa fn K = (true, He.valD fn)
def hookN (n : Nat) (ps : List Pd) (fa : List He.Fa) (fn : List He.DefD) : PySem.W.Hook where
  α := AlN
  obs := fun s => obsNG n ps fa fn s.heap.get?
  val := fun _ => (true, He.valD fn)
  says := fun _ h => ∃ K : PySem.W.Frag, K.In h ∧ SaysN ps fa fn K
  of := fun _ _ e => ⟨_, He.frG_in, e⟩
  keeps := fun _ _ _ ⟨K, hK, c⟩ k => ⟨K, PySem.W.Frag.In.keeps hK k, c⟩
theorem obsNG_eq {n : Nat} {ps : List Pd} {fa : List He.Fa} {fn : List He.DefD} {g : Addr → Option Obj} {s : Shared} (h : ∀ a, g a = s.heap.get? a) : obsNG n ps fa fn g = (hookN n ps fa fn).obs s := by
  have e : g = s.heap.get? := funext h
  rw [e] <;> rfl
/-- the function object of a def -/
def fdOf (K : PySem.W.Frag) (p : Str × Option Str) : FuncData := match K.lookup (He.fAd K p) with
  | some ⟨_, _, .func fd, _⟩ => fd
  | _ => default
/-- all that is known of the written part -/
structure FX (ps : List Pd) (gs frs : List Str) (fn : List He.DefD) (K : PySem.W.Frag) (mg : Str → Option Value) : Prop where
  p : ∀ (i : Nat) {q : Pd}, ps[i]? = some q → q K = true
  g : ∀ (i : Nat) {x : Str}, gs[i]? = some x → mg x = some (.ref (He.ga K x))
  fr : ∀ (i : Nat) {x : Str}, frs[i]? = some x → mg x = none
  d : ∀ (i : Nat) {d : He.DefD}, fn[i]? = some d → FunD K d.name d.qual d.params d.body d.scope (d.dvs K) (d.kws K) (He.fAd K d.at_) (fdOf K d.at_)
theorem fx_of {ps : List Pd} {gs frs : List Str} {fn : List He.DefD} {K : PySem.W.Frag} {h : Heap} {mg : Str → Option Value} (X : K.In h) (G : h.Ns mainGlobals mg) (c : SaysN ps (gs.map He.Fa.glo ++ frs.map He.Fa.free) fn K) : FX ps gs frs fn K mg := by
  have c1 : ps.all (fun p => p K) = true := congrArg (fun z : AlN => z.1) c
  have c2 : He.SaysD (gs.map He.Fa.glo ++ frs.map He.Fa.free) fn K := congrArg (fun z : AlN => z.2) c
  refine ⟨fun i q hq => List.all_eq_true.mp c1 q (List.mem_of_getElem? hq), fun i x hx => ?_, fun i x hx => ?_, fun i d hd => ?_⟩
  · have hi := (List.getElem?_eq_some_iff.mp hx).1
    exact He.glo_ok X G (c2.fact i (f := .glo x) (by rw [List.getElem?_append_left (by simpa using hi), List.getElem?_map, hx]; rfl))
  · have hi := (List.getElem?_eq_some_iff.mp hx).1
    exact He.free_ok X G (c2.fact (gs.length + i) (f := .free x) (by rw [List.getElem?_append_right (by simp), List.length_map, Nat.add_sub_cancel_left, List.getElem?_map, hx]; rfl))
  · obtain ⟨fd, F⟩ := c2.def_ i hd
    have e : fdOf K d.at_ = fd := by
      obtain ⟨oc, od, dV, kV, doc, pm, an, cdv, ct, osl, e1, lk, _⟩ := F.ex
      unfold fdOf
      rw [lk]
    rw [e]; exact F

section
variable {P : Program} {w : World} {K : PySem.W.Frag} {mg : Str → Option Value} {base : Heap} {x qual f : Str} {params : Arguments} {scope : Scope} {body : List Stmt} {fI : Addr} {fd : FuncData} {p1 p2 p3 pos : Pos} {C : Addr}
theorem init_ok (F : FunD K x qual params [.Assign [.Attribute (.Name "self" p1) f p2] (.Name f p3) pos] scope [] [] fI fd) (S : FnScope ["self", f] ["self", f] scope) (T : OexE K C) (hno : PySem.W.findIn K (.ref C) f = some none)
    (h0 : Vis scope "self") (h1 : Vis scope f) (hd : (f == ("__debug__" : Str)) = false) (hcd : (f == ("__classdict__" : Str)) = false) (hs : ∀ env, swapsWith (.Name f p3) (some (.Attribute (.Name "self" p1) f p2)) pos.line env = pure false) : FnOk P w K mg base CX0 1 fI fd ["self", f] (spInit C f) :=
  F.ok S (fun vs H Q E ⟨a, y, e, _⟩ => by rw [e]; rfl) fun cdv A outer s H vs Q E hr h => init_body T hno (pe_var rfl h0) (pe_var rfl h1 hd hcd) (hs _) h
theorem init_okH (F : FunD K x qual params [.Assign [.Attribute (.Name "self" p1) f p2] (.Name f p3) pos] scope [] [] fI fd) (S : FnScope ["self", f] ["self", f] scope) (T : OexE K C) (hno : PySem.W.findIn K (.ref C) f = some none)
    (h0 : Vis scope "self") (h1 : Vis scope f) (hd : (f == ("__debug__" : Str)) = false) (hcd : (f == ("__classdict__" : Str)) = false) (hs : ∀ env, swapsWith (.Name f p3) (some (.Attribute (.Name "self" p1) f p2)) pos.line env = pure false) : L2H.FnH P w K mg base CX0 1 fI fd ["self", f] (spInit C f) := by
  obtain ⟨oc, od, dV, kV, doc, pm, an, cdv, ct, osl, rfl, lk, hcd', _, _⟩ := F.ex
  exact L2H.fn_ofH lk hcd' S (fun vs H Q E ⟨a, y, e, _⟩ => by rw [e]; rfl) fun A outer s H vs Q E p hh hr h => init_body T hno (pe_var rfl h0) (pe_var rfl h1 hd hcd) (hs _) h
end

theorem hu64 {k : Nat} {A : Around} (r : Room k A) : A.units + 64 < cLine := by have := r.un; omega
theorem hu65 {k : Nat} {A : Around} (r : Room k A) : A.units + 65 < cLine := by have := r.un; omega
theorem pnoX {X : Cx} (σ : L2.St) : PassesAt (L2.CX X.prog X.w) X σ (WE WNo σ) := fun _ _ _ e s' _ ⟨_, _, _, _, _, _, _, _, _, _, _, _, z⟩ => z.elim
theorem pnoN {X : Cx} (σ : L2.St) : PassesAt (L2N.CX X.prog X.w) X σ (WE WNo σ) := fun _ _ _ e s' _ ⟨_, _, _, _, _, _, _, _, _, _, _, _, z⟩ => z.elim
section
variable {C : Ctx} {W : WX} {X : Cx} {pos : Pos} {a : Expr} {m : EM}
def eNeg (m : EM) : EM := fun env h => (m env h).bind fun x h1 => match x with
  | .int i => .ok (.int (-i)) h1
  | _ => .no
theorem de_neg (ha : PE X a (tE C W m)) : PE X (.UnaryOp .USub a pos) (tE C W (eNeg m)) := PE.imp (pe_un un_neg ha) fun s H Q ⟨mu, env, h, sr, p⟩ =>
  tE_bind (m := m) sr p fun v H1 mu1 d h1 sr1 e1 rd p1 => by
    split at p1
    · cases rd
      exact ⟨_, rfl, p1 mu1 _ H1 .refl sr1.hp (.int _)⟩
    · exact p1.elim
def bYes : M Bool := fun _ h => .ok true h
theorem dts_nil : PTs X [] (tT C W bYes) := ⟨fun pins s σ H Q I ⟨mu, env, h, sr, p⟩ => pts_nil.run pins s σ H Q I (p mu true H .refl sr.hp rfl)⟩
theorem dts_one {c : Expr} {t : M Bool} (h : PT X c (tT C W t)) : PTs X [c] (tT C W t) := pts_one h
theorem ds_setV {i : Nat} {x : Str} {e : Expr} {p : Pos} (hN : X.N.Nodup) (hi : X.N[i]? = some x) (hx : Loc X.env.scope x) (he : PE X e (tE C W m)) (hs : swapsWith e (some (.Name x p)) pos.line X.env = pure false) (hf : X.fn x = true) : PS X (.Assign [.Name x p] e pos) (tS C W (sSet i m)) :=
  PS.imp (ps_set hN hi hx he hs (.inl hf)) (tAsg_sim fun _ _ _ z => z)
end
/-- the end: a law that lets nothing out -/
theorem law_cx0 {P : Program} {w : World} {K : PySem.W.Frag} {cl : Nat → Addr → Prop} {mg : Str → Option Value} {base : Heap} {k : Nat} {f : Addr} {fd : FuncData} {ps : List Str} {sp sp' : Sp} (F : FnOk P w K mg base (L2.CX P w) k f fd ps sp) (h : ∀ vs H Q E, sp' vs H Q E → sp vs H Q fun _ _ _ => False) : FnOk P w K mg base CX0 k f fd ps sp' := by
  refine ⟨fun vs H Q E q => F.len vs H Q _ (h _ _ _ _ q), fun A outer s H args us vs Q E hr e0 hb r hsp => ?_⟩
  refine codeAny_mono (F.run A outer s H args us vs Q (fun _ _ _ => False) hr e0 hb r (h _ _ _ _ hsp)) fun q s' hq => ?_
  cases q with
  | error e =>
    obtain ⟨_, _, _, _, _, _, _, _, _, _, _, _, z⟩ := hq
    exact z.elim
  | ok fl => cases fl <;> exact hq
/-- what the law's def promises -/
def spLaw (K : PySem.W.Frag) (F : FM) : Sp := fun vs H Q _ => ∃ (a : Addr) (ns : List Int), vs = [.ref a] ∧ ns.length ≤ 63 ∧ SqL K H a (ns.map V.int) ∧ ∀ H', Q (.bl true) H'
theorem law_sp {K : PySem.W.Frag} {cl : Nat → Addr → Prop} {F : FM} (hF : ∀ ns : List Int, ns.length ≤ 63 → ∃ h, F [.frl (ns.map D.int)] [] = .ok (.bl true) h) : ∀ vs H Q E, spLaw K F vs H Q E → spF K cl 1 F vs H Q fun _ _ _ => False := by
  rintro vs H Q E ⟨a, ns, rfl, hl, hS, hQ⟩
  have hz : (ns.map D.int).length ≤ LINE := by rw [List.length_map]; exact Nat.le_trans hl (by decide)
  refine ⟨rfl, [], [.frl (ns.map D.int)], [], ⟨rfl, List.nodup_nil, fun n a c e => by simp at e⟩, .cons (.frl ?_ hz (RelL.of_ints ns)) .nil, ?_⟩
  · rcases hS with h | h
    · exact .inl ⟨by simp, h⟩
    · exact .inr h
  · obtain ⟨h', e⟩ := hF ns hl
    rw [e]
    intro mu' v H' x rp rd
    cases rd
    exact hQ H'
end Nb
end
section
set_option Elab.async false
set_option linter.all false
set_option maxRecDepth 100000
set_option maxHeartbeats 1000000
namespace SrtO
open PySem PyProof.Rows Srt
section
variable {prog : Program} {w : World} {A : Around} {E : Value → Shared → Prop} {s : Shared}
theorem collect_seqX {Q : List Value → Shared → Prop} (it : Addr) {T : String} {o : Obj} {items : Array Value} {n : Nat} (hT : T = "list" ∨ T = "tuple")
    (ho : s.heap.get? it = some o) (hc : o.cls = .type T) (hd : o.data = .seq items n) (hsz : items.size ≤ sizeLine)
    (hQ : Q items.toList { s with heap := (s.heap.push (seqObj "list" #[] 0)).update s.heap.objs.size (Obj.mapSeq (· ++ items)) }) :
    wpAny (model prog w) A (collect (.ref it)) Q E s := by
  unfold collect
  refine wpAny_bind (wpAny_runValue (codeAny_builtin F.entry_proto_collect ?_))
  rw [Around.under_plainId F.plain_proto_collect _]
  show wpAny _ A.in1 (newList [] >>= fun l => again (.builtin "list.__iadd__" ⟨[l, .ref it], []⟩)) _ _ s
  refine wpAny_bind (wpAny_newObj_type ?_)
  refine wpAny_pure ⟨plainId_quiet F.plain_list_iadd _, codeAny_builtin F.entry_list_iadd ?_⟩
  rw [Around.under_plainId F.plain_list_iadd _]
  show wpAny _ A.in1 (Builtin.List.listExtendWith (.ref s.heap.objs.size) (.ref it) (.ref s.heap.objs.size)) _ _ _
  have hS : (s.heap.push { cls := .type "list", data := .seq ([] : List Value).toArray }).get? s.heap.objs.size = some { cls := .type "list", data := .seq #[] 0 } := Heap.get?_push_size _ rfl
  have hS₂ := Heap.get?_update_self (Obj.mapSeq (· ++ items)) hS rfl
  have fin' : wpAny (model prog w) A (match Value.ref s.heap.objs.size with
      | Value.ref a => do
        match (← load a).data with
          | Data.seq xs _ => pure xs.toList
          | _ => unsupported "internal:collect"
      | _ => unsupported "internal:collect") Q E { s with heap := (s.heap.push { cls := .type "list", data := .seq ([] : List Value).toArray }).update s.heap.objs.size (Obj.mapSeq (· ++ items)) } := by
    show wpAny _ A (load s.heap.objs.size >>= _) _ _ _
    refine wpAny_bind (wpAny_load hS₂ ?_)
    refine wpAny_pure ?_
    have e : ((#[] : Array Value) ++ items).toList = items.toList := by simp
    show Q ((#[] : Array Value) ++ items).toList _
    rw [e]
    exact hQ
  refine wpAny_mono (wpAny_extend_seq (hsz := hsz) (A := A) (R := fun r s' => r = .ok (.ret (.ref s.heap.objs.size)) ∧ s' = { s with heap := (s.heap.push { cls := .type "list", data := .seq ([] : List Value).toArray }).update s.heap.objs.size (Obj.mapSeq (· ++ items)) })
    (s := { s with heap := s.heap.push { cls := .type "list", data := .seq ([] : List Value).toArray } }) _ it _ 0 hT hS (Heap.get?_push_of_some _ ho) hc hd ⟨rfl, rfl⟩) (fun fin s' h => ?_) (fun e s' h => ?_)
  · cases fin with
    | done f =>
      obtain ⟨e, rfl⟩ := h
      cases e
      exact fin'
    | again c' => exact ⟨h.1, codeAny_mono h.2 fun r s'' hr => by obtain ⟨rfl, rfl⟩ := hr; exact fin'⟩
  · exact absurd h.1 (by simp)
/-- sorted(t), t a tuple: as sorted_ord -/
theorem sorted_ordT {l : Addr} {vs : List Value} {o : Obj} {n : Nat} {ltv : Value → Value → Bool} {Q : Value → Shared → Prop} (O : Swo ltv) (ho : s.heap.get? l = some o) (hc : o.cls = .type "tuple") (hd : o.data = .seq vs.toArray n) (hz : vs.length ≤ sizeLine)
    (hS : 2 ≤ vs.length → ∀ (h₁ : Heap) (a : Addr), h₁.get? a = some (seqObj "list" vs.toArray 0) → (∀ b o, s.heap.get? b = some o → b ≠ a ∧ h₁.get? b = some o) → SortableO prog w A.in1.in1 { s with heap := h₁ } a vs ltv)
    (h : ∀ out : List Value, Srtd ltv out → Stb ltv out vs → Q (.ref (s.heap.objs.size + 1)) { s with heap := sortedAll s.heap vs out.toArray }) :
    wpAny (model prog w) A (call (.builtin "sorted") [.ref l]) Q E s := by
  refine Calls.call_function_entry kind_sorted plain_sorted entry_sorted (args_sorted1 _) ?_
  unfold Builtin.«sorted»
  refine wpAny_bind (m := checkCount "sorted" 1 1 _) (wpAny_pure ?_)
  refine wpAny_bind (collect_seqX l (.inr rfl) ho hc hd (by rw [List.size_toArray]; exact hz) ?_)
  refine wpAny_bind (wpAny_newList ?_ hz)
  have hsz : ((s.heap.push (seqObj "list" #[] 0)).update s.heap.objs.size (Obj.mapSeq (· ++ vs.toArray))).objs.size = s.heap.objs.size + 1 := by
    rw [Heap.size_update, size_push']
  have hoL : (((s.heap.push (seqObj "list" #[] 0)).update s.heap.objs.size (Obj.mapSeq (· ++ vs.toArray))).push (seqObj "list" vs.toArray 0)).get? (s.heap.objs.size + 1) = some (seqObj "list" vs.toArray 0) := by
    rw [← hsz]; exact Heap.get?_push_size _ rfl
  have keep : ∀ b o, s.heap.get? b = some o → b ≠ s.heap.objs.size + 1 ∧ (((s.heap.push (seqObj "list" #[] 0)).update s.heap.objs.size (Obj.mapSeq (· ++ vs.toArray))).push (seqObj "list" vs.toArray 0)).get? b = some o := fun b o q => by
    have hlt : b < s.heap.objs.size := Heap.lt_size q
    refine ⟨Nat.ne_of_lt (Nat.lt_succ_of_lt hlt), Heap.get?_push_of_some _ ?_⟩
    rw [Heap.get?_update_ne _ _ _ _ (Nat.ne_of_lt hlt)]
    exact Heap.get?_push_of_some _ q
  show wpAny _ _ _ _ _ { s with heap := ((s.heap.push (seqObj "list" #[] 0)).update s.heap.objs.size (Obj.mapSeq (· ++ vs.toArray))).push (seqObj "list" vs.toArray 0) }
  rw [hsz]
  refine wpAny_bind (wpAny_holding (wpAny_call_entry slot_list_sort ⟨_, hoL, rfl⟩ entry_list_sort (list_sort_ord O hoL hz (fun h2 => hS h2 _ _ hoL keep) fun out hs hb => ⟨_, rfl, ?_⟩) (args_list_sort _)))
  exact wpAny_pure ⟨_, rfl, h out hs hb⟩
end
end SrtO
namespace L2
open PySem PySem.Spec PyProof.Rows
/-- sorted(list or tuple of ints) -/
def rSortedA (K : PySem.W.Frag) : List V → Hp → VK → Prop := fun vs H Q => ∃ (a : Addr) (ns : List Int), vs = [V.ref a] ∧ (SqL K H a (ns.map V.int) ∨ SqT K H a (ns.map V.int)) ∧
  ∀ (ns' : List Int) (p : Addr), ns'.Perm ns → ns'.Pairwise (· ≤ ·) → H p = none → Q (.ref p) (upd H p (.lst (ns'.map V.int)))
theorem cr_sortedA {X : Cx} : CallR X (.builtin "sorted") (rSortedA X.K) := by
  intro pins s σ H vs us Q I r h
  obtain ⟨a, ns, rfl, hs | hs, q⟩ := h
  · exact cr_sortedI pins s σ H _ us Q I r ⟨a, ns, rfl, hs, q⟩
  · obtain ⟨its, rv, ht, hz⟩ := I.tuple hs
    rw [Vals.ref1 r]
    have hi := rv.ints
    obtain ⟨o, ho, hc, n, hd⟩ := ht
    refine SrtO.sorted_ordT SrtO.swo_int ho hc hd (by rw [← rv.length]; exact hz) (fun h2 h₁ a' _ _ => SrtO.ints_sortable hi h2) fun out h1 h2 => ?_
    obtain ⟨k1, k2, k3⟩ := SrtO.ints_out hi h1 h2
    obtain ⟨ep, he'⟩ := PyProof.Rows.sortedAll_at s.heap its out.toArray
    have hlen : ((out.map SrtO.iv).map V.int).length ≤ sizeLine := by
      rw [List.length_map, k2.length_eq]
      rw [List.length_map] at hz
      exact hz
    exact ⟨.ref _, upd H (s.heap.objs.size + 1) (.lst ((out.map SrtO.iv).map V.int)), I.laid (t' := s.toks) (fun _ _ => PyProof.Rows.sortedAll_old) (Nat.le_succ _) ⟨hlen, out, ep, vals_of_ints k1, he'⟩, rfl, q _ _ k2 k3 (I.hok.fresh (Nat.le_succ _))⟩
end L2
namespace Nb
open PySem PySem.Spec PyProof.Rows L2
def fSortedA (fr : Bool) : FM := fun ds h => match ds with
  | [d] => match (asS d h).bind intsOf with
    | some ns => mkL fr ((sortI ns).map D.int) h
    | none => .no
  | _ => .no
theorem sim_sortedA {C : Ctx} {fr : Bool} : Sim1 C (fSortedA fr) (rSortedA C.K) := by
  intro H mu h ds vs Q E rp rd p
  unfold fSortedA at p
  split at p
  · cases rd with
    | cons rd rt =>
    cases rt
    split at p
    · rename_i ns e
      rw [Option.bind_eq_some_iff] at e
      obtain ⟨l, e1, e2⟩ := e
      obtain ⟨a, ws, q1, q2, q3, q4⟩ := asS_of rp rd e1
      rw [intsOf_eq e2] at q3 q4
      rw [q3.ints] at q2
      subst q1
      refine ⟨a, ns, rfl, q2, fun ns' q h1 h2 hq => ?_⟩
      have z : ns' = sortI ns := sorted_uniq (h1.trans (sortI_perm ns).symm) h2 (sortI_pair ns)
      subst z
      exact post_mkL rp (RelL.of_ints _) (by rw [List.length_map, (sortI_perm ns).length_eq]; simpa using q4) hq p
    · exact p.elim
  · exact p.elim
theorem bo_isinstance : bootBuiltins "isinstance" = some (.builtin "isinstance") := by decide +kernel
theorem bo_len : bootBuiltins "len" = some (.builtin "len") := by decide +kernel
theorem bo_sum : bootBuiltins "sum" = some (.builtin "sum") := by decide +kernel
theorem bo_all : bootBuiltins "all" = some (.builtin "all") := by decide +kernel
theorem bo_any : bootBuiltins "any" = some (.builtin "any") := by decide +kernel
theorem bo_min : bootBuiltins "min" = some (.builtin "min") := by decide +kernel
theorem bo_max : bootBuiltins "max" = some (.builtin "max") := by decide +kernel
theorem bo_sorted : bootBuiltins "sorted" = some (.builtin "sorted") := by decide +kernel
theorem bo_int : bootBuiltins "int" = some (.type "int") := by decide +kernel
theorem bo_bool : bootBuiltins "bool" = some (.type "bool") := by decide +kernel
theorem bo_str : bootBuiltins "str" = some (.type "str") := by decide +kernel
theorem bo_list : bootBuiltins "list" = some (.type "list") := by decide +kernel
theorem bo_tuple : bootBuiltins "tuple" = some (.type "tuple") := by decide +kernel
theorem cl_at {names : List Str} {C : Ctx} (hcl : C.cl = clK names C.K) (i : Nat) (x : Str) (h : names[i]? = some x) : C.cl i (He.ga C.K x) := by
  rw [hcl]; exact ⟨x, h, rfl⟩
theorem xf_at {names : List Str} {f : Str} {C : Ctx} (hcl : C.cl = clK names C.K) (h : allB names (fun x => xfP x f) C.K = true) {c : Nat} {Cc : Addr} (hc : C.cl c Cc) : XfC C.K Cc ∧ PySem.W.findIn C.K (.ref Cc) f = some none := by
  rw [hcl] at hc
  obtain ⟨x, e, p⟩ := allB_ok h hc
  subst e
  exact xfP_ok p
theorem kbn_of {K : PySem.W.Frag} {x qual : Str} {params : Arguments} {body : List Stmt} {scope : Scope} {kws : List (Str × V)} {f : Addr} {fd : FuncData} {ps ks : List Str} {n : Nat} (F : FunD K x qual params body scope [] kws f fd)
    (h : ∀ (kV doc pm : Value) (an : Option Addr) (cdv ct : Value) (us ws : List Value), us.length = n → ws.length = ks.length → bindArgs (PySem.W.fnOf x qual params body scope .none kV doc pm an cdv ct) ⟨us, ks.zip ws⟩ = pure (ps.zip (us ++ ws))) :
    KBn K fd ps n ks (fun us ws => us ++ ws) (fun us ws => us ++ ws) := by
  obtain ⟨oc, od, dV, kV, doc, pm, an, cdv, ct, osl, rfl, _, _, hD, _⟩ := F.ex
  rcases hD with ⟨_, rfl⟩ | ⟨e, _⟩
  case inr => exact absurd rfl e
  exact ⟨fun s us ws X l1 l2 => .of_eq (h kV doc pm an cdv ct us ws l1 l2), fun r1 r2 => r1.append r2⟩
end Nb
end
section
set_option Elab.async false
set_option linter.all false
set_option maxRecDepth 100000
set_option maxHeartbeats 1000000
namespace Nb
open PySem PySem.Spec PyProof.Rows L2
open Classical in
noncomputable def lcGo2 (n : Nat) (src : List (Nat × List D)) (t : Tg) (tt : M Bool) (mi1 : M ItS) (t1 : Tg) (tt1 : M Bool) (te : EM) (vs1 : List Nat) (env : Env) : List D → List D → Hpp → R (List D)
  | acc, [], h => if srcOk src h ∧ h[n]? = some (.lst acc) then .ok acc h else .no
  | acc, d :: ds, h => if srcOk src h then (match t d env with
    | none => .no
    | some e => match tt e h with
      | .ok false h1 => lcGo2 n src t tt mi1 t1 tt1 te vs1 env acc ds h1
      | .ok true h1 => (match mi1 e h1 with
        | .ok it1 h2 => if acc.length + it1.items.length ≤ LINE then (match lcGo n it1.src (lcTurn t1 tt1 te (wipeE e vs1)) acc it1.items h2 with
          | .ok acc' h3 => lcGo2 n src t tt mi1 t1 tt1 te vs1 env acc' ds h3
          | _ => .no) else .no
        | _ => .no)
      | _ => .no)
    else .no
noncomputable def eLc2 (fr : Bool) (mi : M ItS) (t : Tg) (tt : M Bool) (mi1 : M ItS) (t1 : Tg) (tt1 : M Bool) (te : EM) (vs vs1 : List Nat) : EM := fun env h => (mi env h).bind fun it h1 =>
  (lcGo2 h1.length it.src t tt mi1 t1 tt1 te vs1 (wipeE env vs) [] it.items (h1 ++ [.lst []])).bind fun acc h2 => if fr = true then .ok (.ref h1.length) h2 else .ok (.lst acc) (h2.take h1.length)
theorem lc2_src {n : Nat} {src : List (Nat × List D)} {t : Tg} {tt : M Bool} {mi1 : M ItS} {t1 : Tg} {tt1 : M Bool} {te : EM} {vs1 : List Nat} {env : Env} {acc ds : List D} {h : Hpp} (z : lcGo2 n src t tt mi1 t1 tt1 te vs1 env acc ds h ≠ .no) : srcOk src h := by
  cases ds with
  | nil =>
    unfold lcGo2 at z
    split at z
    · rename_i q; exact q.1
    · exact absurd rfl z
  | cons d ds =>
    unfold lcGo2 at z
    split at z
    · assumption
    · exact absurd rfl z
/-- a comprehension's loop from anywhere -/
theorem loop_it {J : It} {n : Nat} {G : Hp → Prop} {Y : Nat → Hp → V → Hp → Prop} (w : Walk J n G Y) {g : TG} {tt : TT} {te : TE} {vs : List Nat} {σ : L2.St} {H0 : Hp} {D : Addr} {Qd : Hp → Prop} (Pv : Nat → Hp → Prop) (h0 : Pv 0 H0) (hG : ∀ i H, i ≤ n → Pv i H → G H)
    (hs : ∀ i x H H', i < n → Pv i H → Y i H x H' → g x (wipe σ vs) H' fun σ2 H2 => wipe σ2 vs = wipe σ vs ∧ tt σ2 H2 fun b H3 =>
      if b = true then te σ2 H3 fun y H4 => ∃ acc, H4 D = some (.lst acc) ∧ acc.length < sizeLine ∧ Pv (i + 1) (upd H4 D (.lst (acc ++ [y]))) else Pv (i + 1) H3) (hd : ∀ H, Pv n H → Qd H) :
    ∃ W : Nat → Nat → Hp → Prop, (∃ m, W 0 m H0) ∧ ∀ i m H, W i m H →
      (J.stop i H ∧ Qd H) ∨ (J.go i H ∧ ∃ Nx : Hp → Prop, (∀ H', Nx H' → ∃ m', m' < m ∧ W (i + 1) m' H') ∧ ∀ x H', J.yld i H x H' → g x (wipe σ vs) H' fun σ2 H2 => wipe σ2 vs = wipe σ vs ∧ tt σ2 H2 fun b H3 =>
        if b = true then te σ2 H3 fun y H4 => ∃ acc, H4 D = some (.lst acc) ∧ acc.length < sizeLine ∧ Nx (upd H4 D (.lst (acc ++ [y]))) else Nx H3) := by
  refine ⟨fun i m H => m = n - i ∧ i ≤ n ∧ Pv i H, ⟨n, by simp, Nat.zero_le _, h0⟩, ?_⟩
  rintro i m H ⟨rfl, hi, p⟩
  have q := hG i H hi p
  by_cases hlt : i < n
  · exact .inr ⟨w.goes i H hlt q, Pv (i + 1), fun H' p' => ⟨n - (i + 1), by omega, rfl, hlt, p'⟩, fun x H' y => hs i x H H' hlt p (w.yields i H x H' hlt q y)⟩
  · have e : i = n := by omega
    subst e
    exact .inl ⟨w.stops H q, hd H p⟩
section
variable {C : Ctx} {W : WX} {X : Cx} {pos p tpos : Pos} {mi mi1 : M ItS} {t t1 : Tg} {tt tt1 : M Bool} {te : EM} {g g1 : TG} {is is1 : List Nat}
/-- one source's loop: the items are put at the end of the list at D -/
theorem lc_run {H1 : Hp} {mu1 : List Addr} {Q : VK} {E : XK} {K : List Nb.D → Hpp → R Nb.D} {H4 : Hp} {mu4 : List Addr} {h2 : Hpp} {e : Env} {σ : L2.St} {D : Addr} {n : Nat} {it : ItS} {J : It} {vs : List Nat} {acc : List Nb.D} (sg : SimG C t1 g1 is1) (hsub : ∀ i ∈ is1, i ∈ vs)
    (hx : Ext C.H0 C.mu0 H4 mu4) (rp : RepH C.K C.cl H4 mu4 h2) (re : RelE C.K C.cl H4 mu4 e σ) (hD : mu4[n]? = some D) (wd : WalkD C H4 mu4 it J) (hacc : acc.length + it.items.length ≤ LINE)
    (p : Post C H1 mu1 (RlD C) (match lcGo n it.src (lcTurn t1 tt1 te (wipeE e vs)) acc it.items h2 with | .ok a h => K a h | _ => .no) Q E) :
    ∃ W1 : Nat → Nat → Hp → Prop, (∃ m, W1 0 m H4) ∧ ∀ j k H, W1 j k H →
      (J.stop j H ∧ ∃ mu' h' acc', Ext H4 mu4 H mu' ∧ RepH C.K C.cl H mu' h' ∧ acc'.length ≤ LINE ∧ h'[n]? = some (.lst acc') ∧ Post C H1 mu1 (RlD C) (K acc' h') Q E) ∨ (J.go j H ∧ ∃ Nx1 : Hp → Prop, (∀ H', Nx1 H' → ∃ k', k' < k ∧ W1 (j + 1) k' H') ∧ ∀ x H', J.yld j H x H' → g1 x (wipe σ vs) H' fun σ3 H5 => wipe σ3 vs = wipe σ vs ∧ tT C WNo tt1 σ3 H5 fun b H6 =>
        if b = true then tE C WNo te σ3 H6 fun y H7 => ∃ acc, H7 D = some (.lst acc) ∧ acc.length < sizeLine ∧ Nx1 (upd H7 D (.lst (acc ++ [y]))) else Nx1 H6) := by
  obtain ⟨hz, G, Y, w, w1, w2⟩ := wd
  have sl : sizeLine = LINE := sizeLine_eq
  have re1 : RelE C.K C.cl H4 mu4 (wipeE e vs) (wipe σ vs) := re.wipe _
  generalize hturn : lcTurn t1 tt1 te (wipeE e vs) = turn at p
  have noE : ∀ {r : R (List Nb.D)}, Post C H1 mu1 (RlD C) (match r with | .ok a h => K a h | _ => .no) Q E → r ≠ .no := fun {r} q z => by
    rw [z] at q; exact q.elim
  refine loop_it w (fun i H' => ∃ mu' h' acc', Ext H4 mu4 H' mu' ∧ RepH C.K C.cl H' mu' h' ∧ acc'.length ≤ acc.length + i ∧ Post C H1 mu1 (RlD C) (match lcGo n it.src turn acc' (it.items.drop i) h' with | .ok a h => K a h | _ => .no) Q E)
    ⟨mu4, h2, acc, .refl, rp, Nat.le_refl _, p⟩ ?_ ?_ ?_
  · rintro i H' hi ⟨mu', h', acc', x, rp', _, q⟩
    exact w1 mu' H' h' x rp' (lc_src (noE q))
  · rintro i x H' H'' hlt ⟨mu', h', acc', x1, rp', hac, q⟩ y
    have so := lc_src (noE q)
    obtain ⟨d, hd, sm, rd⟩ := w2 i H' x H'' mu' h' x1 rp' so hlt y
    have hdr : it.items.drop i = d :: it.items.drop (i + 1) := by
      obtain ⟨h0, h1'⟩ := List.getElem?_eq_some_iff.mp hd
      rw [List.drop_eq_getElem_cons h0, h1']
    rw [hdr] at q
    unfold lcGo at q
    rw [if_pos so] at q
    have x2 : Ext H' mu' H'' mu' := Ext.same sm
    have rp'' := rp'.same sm
    have re2 := re1.ext (x1.trans x2)
    cases hte : t1 d (wipeE e vs) with
    | none =>
      have ht' : turn d h' = .no := by rw [← hturn]; simp only [lcTurn, hte]
      rw [ht'] at q; exact q.elim
    | some env' =>
    refine sg H'' mu' h' _ env' _ d x _ rp'' re2 rd hte fun s' re' hw => ⟨(hw _ hsub).trans wipe_idem, ?_⟩
    have srt : SR C mu' env' h' s' H'' := ⟨hx.trans (x1.trans x2), rp'', re'⟩
    refine ⟨mu', env', h', srt, ?_⟩
    cases htt : tt1 env' h' with
    | no =>
      have ht' : turn d h' = .no := by rw [← hturn]; simp only [lcTurn, hte, htt, R.bind]
      rw [ht'] at q; exact q.elim
    | exc c l h3 =>
      have ht' : turn d h' = .exc c l h3 := by rw [← hturn]; simp only [lcTurn, hte, htt, R.bind]
      rw [ht'] at q; exact q.elim
    | ok b h3 =>
      intro mu3 b' H3 x3 rp3 eb
      have eb' : b = b' := eb
      subst eb'
      cases b with
      | false =>
        have ht' : turn d h' = .ok none h3 := by rw [← hturn]; simp only [lcTurn, hte, htt, R.bind, if_neg Bool.false_ne_true]
        rw [ht'] at q
        exact ⟨mu3, h3, acc', (x1.trans x2).trans x3, rp3, by omega, q⟩
      | true =>
        rw [if_pos rfl]
        refine ⟨mu3, env', h3, srt.to x3 rp3, ?_⟩
        cases hte2 : te env' h3 with
        | no =>
          have ht' : turn d h' = .no := by rw [← hturn]; simp [lcTurn, hte, htt, R.bind, hte2]
          rw [ht'] at q; exact q.elim
        | exc c l h4 =>
          have ht' : turn d h' = .exc c l h4 := by rw [← hturn]; simp [lcTurn, hte, htt, R.bind, hte2]
          rw [ht'] at q; exact q.elim
        | ok yd h4 =>
          intro mu5 yv H5 x5 rp5 ry
          have ht' : turn d h' = .ok (some yd) h4 := by rw [← hturn]; simp [lcTurn, hte, htt, R.bind, hte2]
          rw [ht'] at q
          simp only at q
          split at q
          · rename_i a hh heq
            split at heq
            · rename_i hcond
              have x6 := ((x1.trans x2).trans x3).trans x5
              have hD5 : mu5[n]? = some D := x6.get hD
              obtain ⟨ws, g1', g2, g3⟩ := rp5.cellAt hD5 hcond.2
              have hln : acc'.length < LINE := by omega
              refine ⟨ws, g1', by rw [sl, ← g3.len]; exact hln, mu5, h4.set n (.lst (acc' ++ [yd])), acc' ++ [yd], x6.trans (Ext.put (List.mem_of_getElem? hD5)), ?_, by simp; omega, ?_⟩
              · exact rp5.put hD5 g1' (fun x => nofun) (by nofun) ⟨ws ++ [yv], upd_same, by simp; omega, (g3.append (.cons ry hcond.1 .nil)).ext (Ext.put (List.mem_of_getElem? hD5))⟩
              · rw [heq]; exact q
            · cases heq
          · exact q.elim
  · rintro H' ⟨mu', h', acc', x1, rp', hac, q⟩
    rw [List.drop_length] at q
    unfold lcGo at q
    split at q
    · rename_i a hh heq
      split at heq
      · rename_i hcond
        cases heq
        exact ⟨mu', h', acc', x1, rp', by omega, hcond.2, q⟩
      · cases heq
    · exact q.elim
theorem lc2_sim (fr : Bool) {vs vs1 : List Nat} (sg : SimG C t g is) (hsub : ∀ i ∈ is, i ∈ vs) (sg1 : SimG C t1 g1 is1) (hsub1 : ∀ i ∈ is1, i ∈ vs1) : ∀ s H Q, tE C W (eLc2 fr mi t tt mi1 t1 tt1 te vs vs1) s H Q → tLc2 (tI C W mi) g (tT C WNo tt) (tI C WNo mi1) g1 (tT C WNo tt1) (tE C WNo te) vs vs1 s H Q := fun s H Q ⟨mu, env, h, sr, p⟩ => by
  refine ⟨mu, env, h, sr, (Post.bind (Rl := WalkD C) p).mono (fun J H1 ⟨mu1, it, h1, e1, rp1, wd, p1⟩ D hD => ?_) fun _ _ _ z => z⟩
  clear p
  obtain ⟨hz, G, Y, w, w1, w2⟩ := wd
  have hl1 := rp1.len
  have hDn : D ∉ mu1 := rp1.off hD
  have e2 : Ext H1 mu1 (upd H1 D (.lst [])) (mu1 ++ [D]) := Ext.cell hD
  have rp2 : RepH C.K C.cl (upd H1 D (.lst [])) (mu1 ++ [D]) (h1 ++ [.lst []]) := rp1.cell hD ⟨[], upd_same, by simp, .nil⟩
  have hg2 : (mu1 ++ [D])[h1.length]? = some D := by rw [← hl1]; simp
  have sr1 : SR C mu1 env h1 s H1 := sr.to e1 rp1
  have re1 : RelE C.K C.cl H1 mu1 (wipeE env vs) (wipe s vs) := sr1.en.wipe _
  have noE : ∀ {k : List Nb.D → Hpp → R Nb.D} {r : R (List Nb.D)}, Post C H1 mu1 (RlD C) (r.bind k) Q (fun c d H' => W c d s H') → r ≠ .no := fun {k r} q z => by
    rw [z] at q; exact q.elim
  have Pend : ∀ {H' : Hp} {mu' : List Addr} {h' : Hpp} {acc : List Nb.D}, Ext (upd H1 D (.lst [])) (mu1 ++ [D]) H' mu' → RepH C.K C.cl H' mu' h' → h'[h1.length]? = some (.lst acc) → Post C H1 mu1 (RlD C) (if fr = true then .ok (.ref h1.length) h' else .ok (.lst acc) (h'.take h1.length)) Q (fun c d H' => W c d s H') → Q (.ref D) H' := fun {H' mu' h' acc} x1 rp' hc q => by
    have hD4 : mu'[h1.length]? = some D := x1.get hg2
    obtain ⟨ws, g1', g2, g3⟩ := rp'.cellAt hD4 hc
    obtain ⟨nu, hnu⟩ := (e2.trans x1).pre
    cases fr with
    | true => exact q mu' (.ref D) H' (e2.trans x1) rp' (.ref hD4)
    | false =>
      subst hnu
      have rc := rp'.cut
      rw [hl1] at rc
      exact q mu1 (.ref D) H' (e2.trans x1).cut rc (.lst hDn g1' g2 g3.cut)
  refine ⟨fun i m H' => m = it.items.length - i ∧ i ≤ it.items.length ∧ ∃ mu' h' acc, Ext (upd H1 D (.lst [])) (mu1 ++ [D]) H' mu' ∧ RepH C.K C.cl H' mu' h' ∧ Post C H1 mu1 (RlD C) ((lcGo2 h1.length it.src t tt mi1 t1 tt1 te vs1 (wipeE env vs) acc (it.items.drop i) h').bind fun acc h2 => if fr = true then .ok (.ref h1.length) h2 else .ok (.lst acc) (h2.take h1.length)) Q (fun c d H' => W c d s H'),
    ⟨it.items.length, by simp, Nat.zero_le _, mu1 ++ [D], _, [], .refl, rp2, p1⟩, ?_⟩
  rintro i m H' ⟨rfl, hi, mu', h', acc, x1, rp', q⟩
  have so := lc2_src (noE q)
  have hG := w1 mu' H' h' (e2.trans x1) rp' so
  by_cases hlt : i < it.items.length
  · refine .inr ⟨w.goes i H' hlt hG, fun H'' => ∃ mu' h' acc, Ext (upd H1 D (.lst [])) (mu1 ++ [D]) H'' mu' ∧ RepH C.K C.cl H'' mu' h' ∧ Post C H1 mu1 (RlD C) ((lcGo2 h1.length it.src t tt mi1 t1 tt1 te vs1 (wipeE env vs) acc (it.items.drop (i + 1)) h').bind fun acc h2 => if fr = true then .ok (.ref h1.length) h2 else .ok (.lst acc) (h2.take h1.length)) Q (fun c d H' => W c d s H'), fun H'' z => ⟨it.items.length - (i + 1), by omega, rfl, hlt, z⟩, fun x H'' y' => ?_⟩
    have y := w.yields i H' x H'' hlt hG y'
    obtain ⟨d, hd, sm, rd⟩ := w2 i H' x H'' mu' h' (e2.trans x1) rp' so hlt y
    have hdr : it.items.drop i = d :: it.items.drop (i + 1) := by
      obtain ⟨h0, h1'⟩ := List.getElem?_eq_some_iff.mp hd
      rw [List.drop_eq_getElem_cons h0, h1']
    rw [hdr] at q
    unfold lcGo2 at q
    rw [if_pos so] at q
    have x2 : Ext H' mu' H'' mu' := Ext.same sm
    have rp'' := rp'.same sm
    have re2 := re1.ext ((e2.trans x1).trans x2)
    cases hte : t d (wipeE env vs) with
    | none => rw [hte] at q; exact q.elim
    | some env' =>
    rw [hte] at q
    simp only at q
    refine sg H'' mu' h' _ env' _ d x _ rp'' re2 rd hte fun s' re' hw => ⟨(hw _ hsub).trans wipe_idem, ?_⟩
    have srt : SR C mu' env' h' s' H'' := ⟨sr1.ext.trans ((e2.trans x1).trans x2), rp'', re'⟩
    refine ⟨mu', env', h', srt, ?_⟩
    cases htt : tt env' h' with
    | no => rw [htt] at q; exact q.elim
    | exc c l h3 => rw [htt] at q; exact q.elim
    | ok b h3 =>
      intro mu3 b' H3 x3 rp3 eb
      have eb' : b = b' := eb
      subst eb'
      rw [htt] at q
      cases b with
      | false => exact ⟨mu3, h3, acc, (x1.trans x2).trans x3, rp3, q⟩
      | true =>
        rw [if_pos rfl]
        simp only at q
        refine ⟨mu3, env', h3, srt.to x3 rp3, ?_⟩
        cases hmi : mi1 env' h3 with
        | no => rw [hmi] at q; exact q.elim
        | exc c l h4 => rw [hmi] at q; exact q.elim
        | ok it1 h4 =>
          rw [hmi] at q
          intro mu4 J1 H4 x4 rp4 wd1
          simp only at q
          by_cases hcond : acc.length + it1.items.length ≤ LINE
          · rw [if_pos hcond] at q
            have x5 := ((x1.trans x2).trans x3).trans x4
            have srt4 := (srt.to x3 rp3).to x4 rp4
            have q' : Post C H1 mu1 (RlD C) (match lcGo h1.length it1.src (lcTurn t1 tt1 te (wipeE env' vs1)) acc it1.items h4 with
                | .ok a h => (lcGo2 h1.length it.src t tt mi1 t1 tt1 te vs1 (wipeE env vs) a (it.items.drop (i + 1)) h).bind fun acc h2 => if fr = true then .ok (.ref h1.length) h2 else .ok (.lst acc) (h2.take h1.length)
                | _ => .no) Q (fun c d H' => W c d s H') := by
              revert q
              cases lcGo h1.length it1.src (lcTurn t1 tt1 te (wipeE env' vs1)) acc it1.items h4 with
              | ok a hh => exact fun q => q
              | exc _ _ _ => exact fun q => q.elim
              | no => exact fun q => q.elim
            obtain ⟨W1, k1, k2⟩ := lc_run (K := fun a h => (lcGo2 h1.length it.src t tt mi1 t1 tt1 te vs1 (wipeE env vs) a (it.items.drop (i + 1)) h).bind fun acc h2 => if fr = true then .ok (.ref h1.length) h2 else .ok (.lst acc) (h2.take h1.length)) sg1 hsub1 srt4.ext rp4 srt4.en (x5.get hg2) wd1 hcond q'
            refine ⟨W1, k1, fun j k H5 hw => ?_⟩
            rcases k2 j k H5 hw with ⟨st, mu6, h6, acc6, x6, rp6, _, _, q6⟩ | gg
            · exact .inl ⟨st, mu6, h6, acc6, x5.trans x6, rp6, q6⟩
            · exact .inr gg
          · rw [if_neg hcond] at q; exact q.elim
  · have e : i = it.items.length := by omega
    subst e
    refine .inl ⟨w.stops H' hG, ?_⟩
    rw [List.drop_length] at q
    unfold lcGo2 at q
    split at q
    · rename_i hcond
      exact Pend x1 rp' hcond.2 q
    · exact q.elim
theorem de_lc2 (fr : Bool) {elt tg iter tg1 iter1 : Expr} {ifs ifs1 : List Expr} {scope : Scope} {own : List (Str × Nat)} (hc : X.calm = true) (hN : X.N.Nodup) (hi : PI X tg iter (tI C W mi)) (ok : BlkOk X.N X.env.scope scope own) (hv : ∀ i ∈ is1, i ∈ own.map (·.2))
    (hg : ∀ (s : Shared) (H : Hp) (C : Addr) (cl : List (Str × Addr)) (fp : List Addr), PG (X.blk s H scope (compEnvC scope cl C X.env) fp) tg g) (sg : SimG C t g is) (hsub : ∀ i ∈ is, i ∈ own.map (·.2))
    (ht : ∀ (s : Shared) (H : Hp) (D : Addr) (cl : List (Str × Addr)) (fp : List Addr), PTs (X.blk s H scope (compEnvC scope cl D X.env) fp) ifs (tT C WNo tt))
    (hi1 : ∀ (s : Shared) (H : Hp) (D : Addr) (cl : List (Str × Addr)) (fp : List Addr), PI (X.blk s H scope (compEnvC scope cl D X.env) fp) tg1 iter1 (tI C WNo mi1))
    (hg1 : ∀ (s : Shared) (H : Hp) (C : Addr) (cl : List (Str × Addr)) (fp : List Addr), PG (X.blk s H scope (compEnvC scope cl C X.env) fp) tg1 g1) (sg1 : SimG C t1 g1 is1)
    (ht1 : ∀ (s : Shared) (H : Hp) (D : Addr) (cl : List (Str × Addr)) (fp : List Addr), PTs (X.blk s H scope (compEnvC scope cl D X.env) fp) ifs1 (tT C WNo tt1))
    (he : ∀ (s : Shared) (H : Hp) (D : Addr) (cl : List (Str × Addr)) (fp : List Addr), PE (X.blk s H scope (compEnvC scope cl D X.env) fp) elt (tE C WNo te)) (hs : ∀ x, foldedSetIterable iter X.env x = pure x) (hs1 : ∀ env x, foldedSetIterable iter1 env x = pure x) :
    PE X (.ListComp elt [⟨tg, iter, ifs, 0⟩, ⟨tg1, iter1, ifs1, 0⟩] scope pos) (tE C W (eLc2 fr mi t tt mi1 t1 tt1 te (own.map (·.2)) is1)) := PE.imp (pe_lc2 hc hN hi ok hv hg ht hi1 hg1 ht1 he hs hs1) (lc2_sim fr sg hsub sg1 fun _ z => z)
theorem ds_setLc2 (fr : Bool) {i : Nat} {y : Str} {elt tg iter tg1 iter1 : Expr} {ifs ifs1 : List Expr} {scope : Scope} {own : List (Str × Nat)} {spos : Pos} (hc : X.calm = true) (hN : X.N.Nodup) (hy : X.N[i]? = some y) (hyl : X.env.scope.names.lookup y = some .local)
    (hsw : swapsWith (.ListComp elt [⟨tg, iter, ifs, 0⟩, ⟨tg1, iter1, ifs1, 0⟩] scope pos) (some (.Name y p)) spos.line X.env = pure true) (hi : PI X tg iter (tI C W mi)) (ok : BlkOk X.N X.env.scope scope own) (hv : ∀ i ∈ is1, i ∈ own.map (·.2))
    (hg : ∀ (s : Shared) (H : Hp) (C : Addr) (cl : List (Str × Addr)) (fp : List Addr), PG (X.blk s H scope (compEnvC scope cl C X.env) fp) tg g) (sg : SimG C t g is) (hsub : ∀ i ∈ is, i ∈ own.map (·.2))
    (ht : ∀ (s : Shared) (H : Hp) (D : Addr) (cl : List (Str × Addr)) (fp : List Addr), PTs (X.blk s H scope (compEnvC scope cl D X.env) fp) ifs (tT C WNo tt))
    (hi1 : ∀ (s : Shared) (H : Hp) (D : Addr) (cl : List (Str × Addr)) (fp : List Addr), PI (X.blk s H scope (compEnvC scope cl D X.env) fp) tg1 iter1 (tI C WNo mi1))
    (hg1 : ∀ (s : Shared) (H : Hp) (C : Addr) (cl : List (Str × Addr)) (fp : List Addr), PG (X.blk s H scope (compEnvC scope cl C X.env) fp) tg1 g1) (sg1 : SimG C t1 g1 is1)
    (ht1 : ∀ (s : Shared) (H : Hp) (D : Addr) (cl : List (Str × Addr)) (fp : List Addr), PTs (X.blk s H scope (compEnvC scope cl D X.env) fp) ifs1 (tT C WNo tt1))
    (he : ∀ (s : Shared) (H : Hp) (D : Addr) (cl : List (Str × Addr)) (fp : List Addr), PE (X.blk s H scope (compEnvC scope cl D X.env) fp) elt (tE C WNo te)) (hs : ∀ x, foldedSetIterable iter X.env x = pure x) (hs1 : ∀ env x, foldedSetIterable iter1 env x = pure x) :
    PS X (.Assign [.Name y p] (.ListComp elt [⟨tg, iter, ifs, 0⟩, ⟨tg1, iter1, ifs1, 0⟩] scope pos) spos) (tS C W (sSet i (eLc2 fr mi t tt mi1 t1 tt1 te (own.map (·.2)) is1))) := PS.imp (ps_setLc2 hc hN hy hyl hsw hi ok hv hg ht hi1 hg1 ht1 he hs hs1) (tAsg_sim (lc2_sim fr sg hsub sg1 fun _ z => z))
end
end Nb
end
section
set_option Elab.async false
set_option linter.all false
set_option maxRecDepth 100000
set_option maxHeartbeats 1000000
namespace Nb
open PySem PySem.Spec PyProof.Rows L2
abbrev nI (n : Nat) : D := .int (n : Int)
def tN (l : List Nat) : D := .tup (l.map nI)
def lN (l : List Nat) : D := .lst (l.map nI)
def lT (l : List (List Nat)) : D := .lst (l.map tN)
def tTs (l : List (List Nat)) : D := .tup (l.map tN)
def pN (l : List Nat) : List PyData := l.map fun (n : Nat) => PyData.int (n : Int)
theorem isPyL_map {α : Type} {f : α → D} (h : ∀ a, isPy (f a) = true) : ∀ l : List α, isPyL (l.map f) = true
  | [] => rfl
  | a :: l => by rw [List.map_cons, isPyL, h a, isPyL_map h l]; rfl
theorem toPyL_map {α : Type} {f : α → D} {g : α → PyData} (h : ∀ a, toPy (f a) = g a) : ∀ l : List α, toPyL (l.map f) = l.map g
  | [] => rfl
  | a :: l => by rw [List.map_cons, toPyL, h a, toPyL_map h l]; rfl
theorem isPy_nI (n : Nat) : isPy (nI n) = true := by rw [nI, isPy]
theorem toPy_nI (n : Nat) : toPy (nI n) = .int n := by rw [nI, toPy]
theorem isPy_tN (l : List Nat) : isPy (tN l) = true := by rw [tN, isPy]; exact isPyL_map isPy_nI l
theorem toPy_tN (l : List Nat) : toPy (tN l) = .tuple (pN l) := by rw [tN, toPy, toPyL_map toPy_nI]; rfl
theorem isPy_lN (l : List Nat) : isPy (lN l) = true := by rw [lN, isPy]; exact isPyL_map isPy_nI l
theorem toPy_lN (l : List Nat) : toPy (lN l) = .list (pN l) := by rw [lN, toPy, toPyL_map toPy_nI]; rfl
theorem isPy_lT (l : List (List Nat)) : isPy (lT l) = true := by rw [lT, isPy]; exact isPyL_map isPy_tN l
theorem toPy_lT (l : List (List Nat)) : toPy (lT l) = .list (l.map fun x => .tuple (pN x)) := by rw [lT, toPy, toPyL_map toPy_tN]
theorem isPy_tT (l : List (List Nat)) : isPy (tTs l) = true := by rw [tTs, isPy]; exact isPyL_map isPy_tN l
theorem toPy_tT (l : List (List Nat)) : toPy (tTs l) = .tuple (l.map fun x => .tuple (pN x)) := by rw [tTs, toPy, toPyL_map toPy_tN]
theorem pyOf_ok {d : D} {h : Hpp} (hr : d.isRef = false) (hp : isPy d = true) : pyOf d h = some (toPy d) := by
  unfold pyOf
  split
  · cases hr
  · rw [if_pos hp]
@[simp] theorem pyOf_int (i : Int) (h : Hpp) : pyOf (.int i) h = some (.int i) := by rw [pyOf_ok rfl (by rw [isPy]), toPy]
@[simp] theorem pyOf_bl (b : Bool) (h : Hpp) : pyOf (.bl b) h = some (.bool b) := by rw [pyOf_ok rfl (by rw [isPy]), toPy]
@[simp] theorem pyOf_tN (l : List Nat) (h : Hpp) : pyOf (tN l) h = some (.tuple (pN l)) := by rw [pyOf_ok rfl (isPy_tN l), toPy_tN]
@[simp] theorem pyOf_lN (l : List Nat) (h : Hpp) : pyOf (lN l) h = some (.list (pN l)) := by rw [pyOf_ok rfl (isPy_lN l), toPy_lN]
@[simp] theorem pyOf_lT (l : List (List Nat)) (h : Hpp) : pyOf (lT l) h = some (.list (l.map fun x => .tuple (pN x))) := by rw [pyOf_ok rfl (isPy_lT l), toPy_lT]
@[simp] theorem pyOf_tT (l : List (List Nat)) (h : Hpp) : pyOf (tTs l) h = some (.tuple (l.map fun x => .tuple (pN x))) := by rw [pyOf_ok rfl (isPy_tT l), toPy_tT]
theorem pyOf_cellN {n : Nat} {l : List Nat} {h : Hpp} (e : h[n]? = some (.lst (l.map nI))) : pyOf (.ref n) h = some (.list (pN l)) := by
  unfold pyOf
  simp only [e, isPyL_map isPy_nI, if_true, toPyL_map toPy_nI]; rfl
theorem pyOf_cellT {n : Nat} {l : List (List Nat)} {h : Hpp} (e : h[n]? = some (.lst (l.map tN))) : pyOf (.ref n) h = some (.list (l.map fun x => .tuple (pN x))) := by
  unfold pyOf
  simp only [e, isPyL_map isPy_tN, if_true, toPyL_map toPy_tN]
theorem canLayAll_map {α : Type} {f : α → PyData} (h : ∀ a, (f a).canLay0 = true) : ∀ l : List α, PyData.canLayAll0 (l.map f) = true
  | [] => by simp [PyData.canLayAll0]
  | a :: l => by rw [List.map_cons, PyData.canLayAll0, h a, canLayAll_map h l]; rfl
theorem canLay_int (i : Int) : (PyData.int i).canLay0 = true := by rw [PyData.canLay0]
theorem canLay_pN (l : List Nat) : PyData.canLayAll0 (pN l) = true := canLayAll_map (fun n => canLay_int _) l
theorem canLay_tup (l : List Nat) : (PyData.tuple (pN l)).canLay0 = true := by rw [PyData.canLay0]; exact canLay_pN l
theorem canLay_tups (l : List (List Nat)) : PyData.canLayAll0 (l.map fun x => .tuple (pN x)) = true := canLayAll_map canLay_tup l
theorem depthAll_le {α : Type} {f : α → PyData} {k : Nat} (h : ∀ a, (f a).depth ≤ k) : ∀ l : List α, PyData.depthAll (l.map f) ≤ k
  | [] => by simp [PyData.depthAll]
  | a :: l => by
    rw [List.map_cons, PyData.depthAll]
    exact Nat.max_le.mpr ⟨h a, depthAll_le h l⟩
theorem depth_int (i : Int) : (PyData.int i).depth ≤ 0 := by simp [PyData.depth]
theorem depth_tup (l : List Nat) : (PyData.tuple (pN l)).depth ≤ 1 := by
  rw [PyData.depth]
  exact Nat.succ_le_succ (depthAll_le (fun n => depth_int _) l)
theorem depth_lst (l : List Nat) : (PyData.list (pN l)).depth ≤ 1 := by
  rw [PyData.depth]
  exact Nat.succ_le_succ (depthAll_le (fun n => depth_int _) l)
theorem depth_tups (l : List (List Nat)) : (PyData.tuple (l.map fun x => .tuple (pN x))).depth ≤ 2 := by
  rw [PyData.depth]
  exact Nat.succ_le_succ (depthAll_le depth_tup l)
theorem depth_lsts (l : List (List Nat)) : (PyData.list (l.map fun x => .tuple (pN x))).depth ≤ 2 := by
  rw [PyData.depth]
  exact Nat.succ_le_succ (depthAll_le depth_tup l)
theorem shaped_of {d : PyData} (h : d.canLay0 = true) (k : d.depth ≤ 64) : SeqAt.shaped d = true := by
  unfold SeqAt.shaped
  rw [h, decide_eq_true k]; rfl
@[simp] theorem shaped_int (i : Int) : SeqAt.shaped (.int i) = true := shaped_of (canLay_int i) (Nat.le_trans (depth_int i) (by decide))
@[simp] theorem shaped_bool (b : Bool) : SeqAt.shaped (.bool b) = true := shaped_of (by rw [PyData.canLay0]) (by simp [PyData.depth])
@[simp] theorem shaped_tN (l : List Nat) : SeqAt.shaped (.tuple (pN l)) = true := shaped_of (canLay_tup l) (Nat.le_trans (depth_tup l) (by decide))
@[simp] theorem shaped_lN (l : List Nat) : SeqAt.shaped (.list (pN l)) = true := shaped_of (by rw [PyData.canLay0]; exact canLay_pN l) (Nat.le_trans (depth_lst l) (by decide))
@[simp] theorem shaped_tT (l : List (List Nat)) : SeqAt.shaped (.tuple (l.map fun x => .tuple (pN x))) = true := shaped_of (by rw [PyData.canLay0]; exact canLay_tups l) (Nat.le_trans (depth_tups l) (by decide))
@[simp] theorem shaped_lT (l : List (List Nat)) : SeqAt.shaped (.list (l.map fun x => .tuple (pN x))) = true := shaped_of (by rw [PyData.canLay0]; exact canLay_tups l) (Nat.le_trans (depth_lsts l) (by decide))
theorem eqv_int (i j : Int) : PyData.eqv (.int i) (.int j) = decide (i = j) := by rw [PyData.eqv]; exact (Bool.beq_eq_decide_eq i j)
theorem eqv_bool (i j : Bool) : PyData.eqv (.bool i) (.bool j) = decide (i = j) := by rw [PyData.eqv]; exact (Bool.beq_eq_decide_eq i j)
theorem eqvAll_map {α : Type} {f : α → PyData} [DecidableEq α] (h : ∀ a b, PyData.eqv (f a) (f b) = decide (a = b)) : ∀ l m : List α, PyData.eqvAll (l.map f) (m.map f) = decide (l = m)
  | [], [] => by simp [PyData.eqvAll]
  | [], b :: m => by simp [PyData.eqvAll]
  | a :: l, [] => by simp [PyData.eqvAll]
  | a :: l, b :: m => by
    rw [List.map_cons, List.map_cons, PyData.eqvAll, h a b, eqvAll_map h l m]
    simp [Bool.decide_and]
theorem eqv_nat (i j : Nat) : PyData.eqv (.int (i : Int)) (.int (j : Int)) = decide (i = j) := by rw [eqv_int]; simp only [Int.ofNat_inj]
theorem eqvAll_pN (l m : List Nat) : PyData.eqvAll (pN l) (pN m) = decide (l = m) := eqvAll_map (fun a b => eqv_nat a b) l m
@[simp] theorem eqv_tN (l m : List Nat) : PyData.eqv (.tuple (pN l)) (.tuple (pN m)) = decide (l = m) := by rw [PyData.eqv, eqvAll_pN]
@[simp] theorem eqv_lN (l m : List Nat) : PyData.eqv (.list (pN l)) (.list (pN m)) = decide (l = m) := by rw [PyData.eqv, eqvAll_pN]
@[simp] theorem eqv_lT (l m : List (List Nat)) : PyData.eqv (.list (l.map fun x => .tuple (pN x))) (.list (m.map fun x => .tuple (pN x))) = decide (l = m) := by rw [PyData.eqv, eqvAll_map eqv_tN]
@[simp] theorem eqv_tT (l m : List (List Nat)) : PyData.eqv (.tuple (l.map fun x => .tuple (pN x))) (.tuple (m.map fun x => .tuple (pN x))) = decide (l = m) := by rw [PyData.eqv, eqvAll_map eqv_tN]
section
variable (h : Hpp)
@[simp] theorem oEq_int (i j : Int) : oEq (.int i) (.int j) h = .ok (.bl (decide (i = j))) h := by simp [oEq, eqv_int]
@[simp] theorem oNe_int (i j : Int) : oNe (.int i) (.int j) h = .ok (.bl (!decide (i = j))) h := by simp [oNe, eqv_int]
@[simp] theorem oEq_bl (i j : Bool) : oEq (.bl i) (.bl j) h = .ok (.bl (decide (i = j))) h := by simp [oEq, eqv_bool]
@[simp] theorem oNe_bl (i j : Bool) : oNe (.bl i) (.bl j) h = .ok (.bl (!decide (i = j))) h := by simp [oNe, eqv_bool]
@[simp] theorem oEq_tN (i j : List Nat) : oEq (tN i) (tN j) h = .ok (.bl (decide (i = j))) h := by simp [oEq]
@[simp] theorem oNe_tN (i j : List Nat) : oNe (tN i) (tN j) h = .ok (.bl (!decide (i = j))) h := by simp [oNe]
@[simp] theorem oEq_lT (i j : List (List Nat)) : oEq (lT i) (lT j) h = .ok (.bl (decide (i = j))) h := by simp [oEq]
@[simp] theorem oNe_lT (i j : List (List Nat)) : oNe (lT i) (lT j) h = .ok (.bl (!decide (i = j))) h := by simp [oNe]
@[simp] theorem oEq_tT (i j : List (List Nat)) : oEq (tTs i) (tTs j) h = .ok (.bl (decide (i = j))) h := by simp [oEq]
@[simp] theorem oNe_tT (i j : List (List Nat)) : oNe (tTs i) (tTs j) h = .ok (.bl (!decide (i = j))) h := by simp [oNe]
theorem any_nat (x : Nat) (l : List Nat) : ((pN l).any fun z => PyData.eqv z (.int (x : Int))) = decide (x ∈ l) := by
  induction l with
  | nil => simp [pN]
  | cons a l ih =>
    have e : pN (a :: l) = .int (a : Int) :: pN l := rfl
    rw [e, List.any_cons, ih, eqv_nat]
    simp [eq_comm]
theorem any_tup (x : List Nat) (l : List (List Nat)) : ((l.map fun y => PyData.tuple (pN y)).any fun z => PyData.eqv z (.tuple (pN x))) = decide (x ∈ l) := by
  induction l with
  | nil => simp
  | cons a l ih => rw [List.map_cons, List.any_cons, ih, eqv_tN]; simp [eq_comm]
theorem oIn_tN (b : Bool) (x : Nat) (l : List Nat) : oIn b (nI x) (tN l) h = .ok (.bl (if b = true then !decide (x ∈ l) else decide (x ∈ l))) h := by
  simp only [oIn, nI, pyOf_int, pyOf_tN, shaped_int, canLay_pN, Bool.and_self, if_true, any_nat]
theorem oIn_lN (b : Bool) (x : Nat) (l : List Nat) : oIn b (nI x) (lN l) h = .ok (.bl (if b = true then !decide (x ∈ l) else decide (x ∈ l))) h := by
  simp only [oIn, nI, pyOf_int, pyOf_lN, shaped_int, canLay_pN, Bool.and_self, if_true, any_nat]
theorem oIn_cellN (b : Bool) (x : Nat) {l : List Nat} {n : Nat} (e : h[n]? = some (.lst (l.map nI))) : oIn b (nI x) (.ref n) h = .ok (.bl (if b = true then !decide (x ∈ l) else decide (x ∈ l))) h := by
  simp only [oIn, nI, pyOf_int, pyOf_cellN e, shaped_int, canLay_pN, Bool.and_self, if_true, any_nat]
theorem oIn_lT (b : Bool) (x : List Nat) (l : List (List Nat)) : oIn b (tN x) (lT l) h = .ok (.bl (if b = true then !decide (x ∈ l) else decide (x ∈ l))) h := by
  simp only [oIn, pyOf_tN, pyOf_lT, shaped_tN, canLay_tups, Bool.and_self, if_true, any_tup]
theorem oIn_tT (b : Bool) (x : List Nat) (l : List (List Nat)) : oIn b (tN x) (tTs l) h = .ok (.bl (if b = true then !decide (x ∈ l) else decide (x ∈ l))) h := by
  simp only [oIn, pyOf_tN, pyOf_tT, shaped_tN, canLay_tups, Bool.and_self, if_true, any_tup]
end
theorem srcOk_nil (h : Hpp) : srcOk [] h := fun p hp => by simp at hp
/-- a comprehension whose turns leave the heap as it is -/
theorem lcGo_pure {n : Nat} {src : List (Nat × List D)} {turn : D → Hpp → R (Option D)} {f : D → Option D} {h : Hpp} (hn : h.length = n) :
    ∀ {l acc : List D}, (∀ c, srcOk src (h ++ [c])) → (∀ d ∈ l, ∀ c, turn d (h ++ [c]) = .ok (f d) (h ++ [c])) → (∀ d ∈ l, ∀ y, f d = some y → y.isRef = false) → lcGo n src turn acc l (h ++ [.lst acc]) = .ok (acc ++ l.filterMap f) (h ++ [.lst (acc ++ l.filterMap f)])
  | [], acc, hs, _, _ => by
    unfold lcGo
    rw [if_pos ⟨hs _, by subst hn; simp⟩]; simp
  | d :: l, acc, hs, ht, hr => by
    unfold lcGo
    rw [if_pos (hs _), ht d List.mem_cons_self]
    cases hf : f d with
    | none =>
      simp only
      rw [lcGo_pure hn hs (fun d' hd => ht d' (List.mem_cons_of_mem _ hd)) fun d' hd => hr d' (List.mem_cons_of_mem _ hd), List.filterMap_cons, hf]
    | some y =>
      simp only
      rw [if_pos ⟨hr d List.mem_cons_self y hf, by subst hn; simp⟩]
      have e : (h ++ [Cell.lst acc]).set n (Cell.lst (acc ++ [y])) = h ++ [Cell.lst (acc ++ [y])] := by subst hn; simp
      rw [e, lcGo_pure hn hs (fun d' hd => ht d' (List.mem_cons_of_mem _ hd)) fun d' hd => hr d' (List.mem_cons_of_mem _ hd), List.filterMap_cons, hf]
      simp
theorem lc_pure {mi : M ItS} {t : Tg} {tt : M Bool} {te : EM} {vs : List Nat} {env : Env} {h : Hpp} {it : ItS} (f : D → Option D) (hmi : mi env h = .ok it h) (hs : ∀ c, srcOk it.src (h ++ [c])) (ht : ∀ d ∈ it.items, ∀ c, lcTurn t tt te (wipeE env vs) d (h ++ [c]) = .ok (f d) (h ++ [c])) (hr : ∀ d ∈ it.items, ∀ y, f d = some y → y.isRef = false) :
    eLc false mi t tt te vs env h = .ok (.lst (it.items.filterMap f)) h := by
  unfold eLc
  rw [hmi]
  simp only [R.bind]
  rw [lcGo_pure rfl hs ht hr]
  simp [R.bind]
theorem filterMap_map' {α β γ : Type} {g : α → β} {f : β → Option γ} {k : α → Option γ} : ∀ {l : List α}, (∀ a ∈ l, f (g a) = k a) → (l.map g).filterMap f = l.filterMap k
  | [], _ => rfl
  | a :: l, h => by
    rw [List.map_cons, List.filterMap_cons, List.filterMap_cons, h a List.mem_cons_self, filterMap_map' fun b hb => h b (List.mem_cons_of_mem _ hb)]
theorem fm_if {α β : Type} (p : α → Bool) (g : α → β) : ∀ xs : List α, xs.filterMap (fun x => if p x = true then some (g x) else none) = (xs.filter p).map g
  | [] => rfl
  | x :: xs => by rw [List.filterMap_cons, List.filter_cons, fm_if p g xs]; cases hp : p x <;> simp
/-- the same over typed items: kept by p, told by g -/
theorem lc_typed {α : Type} {mi : M ItS} {t : Tg} {tt : M Bool} {te : EM} {vs : List Nat} {env : Env} {h : Hpp} {src : List (Nat × List D)} (inj : α → D) (xs : List α) (p : α → Bool) (g : α → D) (hmi : mi env h = .ok ⟨xs.map inj, src⟩ h) (hs : ∀ c, srcOk src (h ++ [c]))
    (ht : ∀ x ∈ xs, ∀ c, ∃ e, t (inj x) (wipeE env vs) = some e ∧ tt e (h ++ [c]) = .ok (p x) (h ++ [c]) ∧ (p x = true → te e (h ++ [c]) = .ok (g x) (h ++ [c]))) (hr : ∀ x, (g x).isRef = false) :
    eLc false mi t tt te vs env h = .ok (.lst ((xs.filter p).map g)) h := by
  have key : ∀ x ∈ xs, ∀ c, lcTurn t tt te (wipeE env vs) (inj x) (h ++ [c]) = .ok (if p x = true then some (g x) else none) (h ++ [c]) := fun x hx c => by
    obtain ⟨e, e1, e2, e3⟩ := ht x hx c
    unfold lcTurn
    rw [e1]
    simp only [e2, R.bind]
    cases hp : p x with
    | true => simp [e3 hp, R.bind]
    | false => simp
  classical
  have hex : ∀ d ∈ xs.map inj, ∃ o, (∀ c, lcTurn t tt te (wipeE env vs) d (h ++ [c]) = .ok o (h ++ [c])) ∧ ∀ y, o = some y → y.isRef = false := fun d hd => by
    obtain ⟨x, hx, e⟩ := List.mem_map.mp hd
    subst e
    refine ⟨_, key x hx, fun y hy => ?_⟩
    split at hy
    · cases hy; exact hr x
    · cases hy
  let f : D → Option D := fun d => if hd : d ∈ xs.map inj then Classical.choose (hex d hd) else none
  have hfs : ∀ d (hd : d ∈ xs.map inj), f d = Classical.choose (hex d hd) := fun d hd => dif_pos hd
  have r := lc_pure (t := t) (tt := tt) (te := te) (vs := vs) f hmi hs (fun d hd c => by rw [hfs d hd]; exact (Classical.choose_spec (hex d hd)).1 c) (fun d hd y hy => by rw [hfs d hd] at hy; exact (Classical.choose_spec (hex d hd)).2 y hy)
  rw [r]
  congr 2
  have e1 : (xs.map inj).filterMap f = xs.filterMap fun x => if p x = true then some (g x) else none := by
    refine filterMap_map' fun x hx => ?_
    have hd : inj x ∈ xs.map inj := List.mem_map_of_mem hx
    rw [hfs _ hd]
    have h1 := (Classical.choose_spec (hex _ hd)).1 (.lst [])
    rw [key x hx (.lst [])] at h1
    injection h1 with h1 h2
    exact h1.symm
  rw [e1, fm_if]
end Nb
end
section
set_option Elab.async false
set_option linter.all false
set_option maxRecDepth 100000
set_option maxHeartbeats 1000000
namespace Nb
def canon (n : Nat) (S : List Nat) : Prop := S.Pairwise (· < ·) ∧ ∀ x ∈ S, x < n
def startOf (S : List Nat) : Nat := match S.getLast? with
  | some x => x + 1
  | none => 0
def extn (n : Nat) (S : List Nat) : List (List Nat) := (List.range' (startOf S) (n - startOf S)).map fun x => S ++ [x]
def nxt (n : Nat) (L : List (List Nat)) : List (List Nat) := L.flatMap (extn n)
def layer (n : Nat) : Nat → List (List Nat)
  | 0 => [[]]
  | k + 1 => nxt n (layer n k)
def subsTo (n : Nat) : Nat → List (List Nat)
  | 0 => []
  | k + 1 => subsTo n k ++ layer n k
/-- all of them -/
def subs (n : Nat) : List (List Nat) := subsTo n (n + 1)
theorem startOf_app (S : List Nat) (x : Nat) : startOf (S ++ [x]) = x + 1 := by simp [startOf]
theorem start_le {S : List Nat} {x : Nat} : S.Pairwise (· < ·) → ((∀ y ∈ S, y < x) ↔ startOf S ≤ x) := by
  intro hp
  rcases List.eq_nil_or_concat S with e | ⟨T, z, e⟩
  · subst e; simp [startOf]
  · subst e
    rw [List.concat_eq_append] at *
    rw [startOf_app]
    rw [List.pairwise_append] at hp
    constructor
    · intro h; exact h z (by simp)
    · intro h y hy
      rcases List.mem_append.mp hy with m | m
      · have := hp.2.2 y m z (by simp); omega
      · have : y = z := by simpa using m
        omega
theorem mem_extn {n : Nat} {S T : List Nat} : T ∈ extn n S ↔ ∃ x, T = S ++ [x] ∧ startOf S ≤ x ∧ x < n := by
  simp only [extn, List.mem_map, List.mem_range'_1]
  constructor
  · rintro ⟨x, ⟨h1, h2⟩, e⟩; exact ⟨x, e.symm, h1, by omega⟩
  · rintro ⟨x, e, h1, h2⟩; exact ⟨x, ⟨h1, by omega⟩, e.symm⟩
theorem canon_app {n : Nat} {S : List Nat} {x : Nat} : canon n (S ++ [x]) ↔ canon n S ∧ startOf S ≤ x ∧ x < n := by
  unfold canon
  rw [List.pairwise_append]
  constructor
  · rintro ⟨⟨h1, _, h3⟩, h4⟩
    exact ⟨⟨h1, fun y hy => h4 y (List.mem_append_left _ hy)⟩, (start_le h1).mp fun y hy => h3 y hy x (by simp), h4 x (by simp)⟩
  · rintro ⟨⟨h1, h2⟩, h3, h4⟩
    refine ⟨⟨h1, by simp, fun a ha b hb => ?_⟩, fun y hy => ?_⟩
    · have : b = x := by simpa using hb
      subst this; exact (start_le h1).mpr h3 a ha
    · rcases List.mem_append.mp hy with m | m
      · exact h2 y m
      · have : y = x := by simpa using m
        subst this; exact h4
theorem mem_layer {n : Nat} : ∀ {k : Nat} {S : List Nat}, S ∈ layer n k ↔ canon n S ∧ S.length = k
  | 0, S => by
    simp only [layer, List.mem_singleton]
    constructor
    · rintro rfl; exact ⟨⟨List.Pairwise.nil, fun x hx => by simp at hx⟩, rfl⟩
    · rintro ⟨_, h⟩; exact List.length_eq_zero_iff.mp h
  | k + 1, S => by
    simp only [layer, nxt, List.mem_flatMap, mem_extn]
    constructor
    · rintro ⟨T, hT, x, rfl, h1, h2⟩
      obtain ⟨c, hl⟩ := mem_layer.mp hT
      exact ⟨canon_app.mpr ⟨c, h1, h2⟩, by simp [hl]⟩
    · rintro ⟨c, hl⟩
      rcases List.eq_nil_or_concat S with e | ⟨T, x, e⟩
      · subst e; simp at hl
      · rw [List.concat_eq_append] at e
        subst e
        obtain ⟨c1, c2, c3⟩ := canon_app.mp c
        exact ⟨T, mem_layer.mpr ⟨c1, by simpa using hl⟩, x, rfl, c2, c3⟩
theorem mem_subsTo {n : Nat} : ∀ {k : Nat} {S : List Nat}, S ∈ subsTo n k ↔ canon n S ∧ S.length < k
  | 0, S => by simp [subsTo]
  | k + 1, S => by
    simp only [subsTo, List.mem_append, mem_subsTo, mem_layer]
    constructor
    · rintro (⟨h, l⟩ | ⟨h, l⟩)
      · exact ⟨h, by omega⟩
      · exact ⟨h, by omega⟩
    · rintro ⟨h, l⟩
      by_cases e : S.length = k
      · exact .inr ⟨h, e⟩
      · exact .inl ⟨h, by omega⟩
theorem nodup_of_lt {S : List Nat} (h : S.Pairwise (· < ·)) : S.Nodup := h.imp fun z => Nat.ne_of_lt z
theorem canon_length {n : Nat} {S : List Nat} (h : canon n S) : S.length ≤ n := by
  have := (List.nodup_range (n := n)).length_le_of_subset (l₂ := List.range n) (fun x hx => hx)
  have h2 : S ⊆ List.range n := fun x hx => List.mem_range.mpr (h.2 x hx)
  have h3 := (nodup_of_lt h.1).length_le_of_subset h2
  simpa using h3
theorem mem_subs {n : Nat} {S : List Nat} : S ∈ subs n ↔ canon n S := by
  rw [subs, mem_subsTo]
  exact ⟨fun h => h.1, fun h => ⟨h, Nat.lt_succ_of_le (canon_length h)⟩⟩
def lexN : List Nat → List Nat → Bool
  | [], [] => false
  | [], _ :: _ => true
  | _ :: _, [] => false
  | x :: xs, y :: ys => if x = y then lexN xs ys else decide (x < y)
theorem lexN_eq : ∀ a b : List Nat, HT.lexLt (a.map fun (n : Nat) => (n : Int)) (b.map fun (n : Nat) => (n : Int)) = lexN a b
  | [], [] => rfl
  | [], _ :: _ => rfl
  | _ :: _, [] => rfl
  | x :: xs, y :: ys => by
    rw [List.map_cons, List.map_cons, HT.lexLt_cons, lexN, lexN_eq xs ys]
    by_cases e : x = y
    · subst e; simp
    · rw [if_neg e, if_neg (by omega)]
      simp
theorem lexN_app {x y : Nat} : ∀ {a b : List Nat}, a.length = b.length → (lexN (a ++ [x]) (b ++ [y]) = true ↔ lexN a b = true ∨ (a = b ∧ x < y))
  | [], [], _ => by
    simp only [List.nil_append, lexN]
    by_cases e : x = y
    · subst e; simp [lexN]
    · simp [e]
  | [], _ :: _, h => by simp at h
  | _ :: _, [], h => by simp at h
  | c :: a, d :: b, h => by
    rw [List.cons_append, List.cons_append, lexN, lexN]
    by_cases e : c = d
    · subst e
      rw [if_pos rfl, if_pos rfl, lexN_app (by simpa using h)]
      simp
    · rw [if_neg e, if_neg e]
      simp [e]
theorem lexN_apps {t : List Nat} : ∀ {a b : List Nat}, a.length = b.length → (lexN (a ++ t) (b ++ t) = lexN a b ∨ (a = b))
  | [], [], _ => .inr rfl
  | [], _ :: _, h => by simp at h
  | _ :: _, [], h => by simp at h
  | c :: a, d :: b, h => by
    rw [List.cons_append, List.cons_append, lexN, lexN]
    by_cases e : c = d
    · subst e
      rw [if_pos rfl, if_pos rfl]
      rcases lexN_apps (t := t) (a := a) (b := b) (by simpa using h) with z | z
      · exact .inl z
      · exact .inr (by rw [z])
    · rw [if_neg e, if_neg e]; exact .inl rfl
theorem lexN_irr : ∀ a : List Nat, lexN a a = false
  | [] => rfl
  | x :: a => by rw [lexN, if_pos rfl, lexN_irr a]
theorem lexN_asym : ∀ {a b : List Nat}, lexN a b = true → lexN b a = false := fun {a b} h => by
  rw [← lexN_eq] at h ⊢
  exact NtL.lex_asym _ _ h
theorem layer_sorted (n : Nat) : ∀ k : Nat, (layer n k).Pairwise fun a b => lexN a b = true
  | 0 => List.pairwise_singleton _ _
  | k + 1 => by
    simp only [layer, nxt]
    have hlen : ∀ S ∈ layer n k, S.length = k := fun S hS => (mem_layer.mp hS).2
    have ih := layer_sorted n k
    generalize layer n k = L at hlen ih
    induction L with
    | nil => exact List.Pairwise.nil
    | cons S L ihL =>
      rw [List.flatMap_cons, List.pairwise_append]
      rw [List.pairwise_cons] at ih
      refine ⟨?_, ihL (fun T hT => hlen T (List.mem_cons_of_mem _ hT)) ih.2, fun a ha b hb => ?_⟩
      · unfold extn
        rw [List.pairwise_map]
        refine (List.pairwise_lt_range' (s := startOf S) (n := n - startOf S)).imp fun {x y} hxy => ?_
        exact (lexN_app rfl).mpr (.inr ⟨rfl, hxy⟩)
      · obtain ⟨x, rfl, _⟩ := mem_extn.mp ha
        obtain ⟨T, hT, hb⟩ := List.mem_flatMap.mp hb
        obtain ⟨y, rfl, _⟩ := mem_extn.mp hb
        exact (lexN_app (by rw [hlen S List.mem_cons_self, hlen T (List.mem_cons_of_mem _ hT)])).mpr (.inl (ih.1 T hT))
/-- by length, then by lexN -/
def before (a b : List Nat) : Prop := a.length < b.length ∨ (a.length = b.length ∧ lexN a b = true)
theorem subsTo_sorted (n : Nat) : ∀ k : Nat, (subsTo n k).Pairwise before
  | 0 => List.Pairwise.nil
  | k + 1 => by
    rw [subsTo, List.pairwise_append]
    refine ⟨subsTo_sorted n k, ?_, fun a ha b hb => .inl ?_⟩
    · refine (layer_sorted n k).imp_of_mem fun {a b} ha hb h => .inr ⟨?_, h⟩
      rw [(mem_layer.mp ha).2, (mem_layer.mp hb).2]
    · rw [(mem_layer.mp hb).2]; exact (mem_subsTo.mp ha).2
theorem subs_sorted (n : Nat) : (subs n).Pairwise before := subsTo_sorted n _
theorem before_irr (a : List Nat) : ¬ before a a := by
  rintro (h | ⟨_, h⟩)
  · exact Nat.lt_irrefl _ h
  · rw [lexN_irr] at h; cases h
theorem before_asym {a b : List Nat} (h : before a b) (h' : before b a) : False := by
  rcases h with h | ⟨h1, h2⟩ <;> rcases h' with k | ⟨k1, k2⟩
  · omega
  · omega
  · omega
  · rw [lexN_asym h2] at k2; cases k2
/-- rows in this order are told by what stands in them -/
theorem before_uniq : ∀ {l m : List (List Nat)}, l.Pairwise before → m.Pairwise before → (∀ x, x ∈ l ↔ x ∈ m) → l = m
  | [], [], _, _, _ => rfl
  | [], b :: m, _, _, h => by have := (h b).mpr List.mem_cons_self; cases this
  | a :: l, [], _, _, h => by have := (h a).mp List.mem_cons_self; cases this
  | a :: l, b :: m, hl, hm, h => by
    rw [List.pairwise_cons] at hl hm
    have hab : a = b := by
      rcases List.mem_cons.mp ((h a).mp List.mem_cons_self) with z | z
      · exact z
      · rcases List.mem_cons.mp ((h b).mpr List.mem_cons_self) with y | y
        · exact y.symm
        · exact (before_asym (hm.1 a z) (hl.1 b y)).elim
    subst hab
    congr 1
    refine before_uniq hl.2 hm.2 fun x => ⟨fun hx => ?_, fun hx => ?_⟩
    · rcases List.mem_cons.mp ((h x).mp (List.mem_cons_of_mem _ hx)) with z | z
      · subst z; exact (before_irr _ (hl.1 _ hx)).elim
      · exact z
    · rcases List.mem_cons.mp ((h x).mpr (List.mem_cons_of_mem _ hx)) with z | z
      · subst z; exact (before_irr _ (hm.1 _ hx)).elim
      · exact z
def dbl : Nat → List (List Nat)
  | 0 => [[]]
  | n + 1 => dbl n ++ (dbl n).map fun S => S ++ [n]
theorem mem_dbl : ∀ {n : Nat} {S : List Nat}, S ∈ dbl n ↔ canon n S
  | 0, S => by
    simp only [dbl, List.mem_singleton]
    constructor
    · rintro rfl; exact ⟨List.Pairwise.nil, fun x hx => by simp at hx⟩
    · rintro ⟨_, h⟩
      cases S with
      | nil => rfl
      | cons x S => have := h x List.mem_cons_self; omega
  | n + 1, S => by
    simp only [dbl, List.mem_append, List.mem_map, mem_dbl]
    constructor
    · rintro (h | ⟨T, h, rfl⟩)
      · exact ⟨h.1, fun x hx => Nat.lt_succ_of_lt (h.2 x hx)⟩
      · refine canon_app.mpr ⟨⟨h.1, fun x hx => Nat.lt_succ_of_lt (h.2 x hx)⟩, (start_le h.1).mp h.2, Nat.lt_succ_self n⟩
    · intro h
      rcases List.eq_nil_or_concat S with e | ⟨T, x, e⟩
      · subst e; exact .inl ⟨List.Pairwise.nil, fun x hx => by simp at hx⟩
      · rw [List.concat_eq_append] at e
        subst e
        obtain ⟨c1, c2, c3⟩ := canon_app.mp h
        have hT : ∀ y ∈ T, y < x := (start_le c1.1).mpr c2
        by_cases hx : x = n
        · subst hx
          exact .inr ⟨T, ⟨c1.1, hT⟩, rfl⟩
        · refine .inl (canon_app.mpr ⟨⟨c1.1, fun y hy => ?_⟩, c2, by omega⟩)
          have := hT y hy; omega
theorem nodup_dbl : ∀ n : Nat, (dbl n).Nodup
  | 0 => by simp [dbl]
  | n + 1 => by
    rw [dbl, List.nodup_append]
    refine ⟨nodup_dbl n, ?_, fun a ha b hb e => ?_⟩
    · unfold List.Nodup
      rw [List.pairwise_map]
      exact (nodup_dbl n).imp fun h e => h (List.append_cancel_right e)
    · obtain ⟨T, hT, rfl⟩ := List.mem_map.mp hb
      subst e
      have := (mem_dbl.mp ha).2 n (by simp)
      omega
theorem sort_layer (n k : Nat) : sortTs (((dbl n).filter fun S => decide (S.length = k)).map fun S => S.map fun (n : Nat) => (n : Int)) = (layer n k).map fun S => S.map fun (n : Nat) => (n : Int) := by
  refine sortTs_uniq ((sortTs_perm _).trans (List.Perm.map _ ?_)) (sortTs_pair _) ?_
  · refine (List.perm_ext_iff_of_nodup ((nodup_dbl n).filter _) ((layer_sorted n k).imp fun {a b} h e => ?_)).mpr fun S => ?_
    · subst e; rw [lexN_irr] at h; cases h
    · rw [List.mem_filter, mem_dbl, mem_layer, decide_eq_true_eq]
  · rw [List.pairwise_map]
    refine (layer_sorted n k).imp fun {a b} h => ?_
    rw [lexN_eq]; exact lexN_asym h
end Nb
end
section
set_option Elab.async false
set_option linter.all false
set_option maxRecDepth 100000
set_option maxHeartbeats 1000000
namespace Nb
def bm : Nat → (Nat → Bool) → Nat
  | 0, _ => 0
  | n + 1, p => bm n p + if p n = true then 2 ^ n else 0
theorem bm_lt : ∀ (n : Nat) (p : Nat → Bool), bm n p < 2 ^ n
  | 0, p => by simp [bm]
  | n + 1, p => by
    have := bm_lt n p
    rw [bm, Nat.pow_succ]
    split <;> omega
theorem bm_congr : ∀ {n : Nat} {p q : Nat → Bool}, (∀ x, x < n → p x = q x) → bm n p = bm n q
  | 0, _, _, _ => rfl
  | n + 1, p, q, h => by rw [bm, bm, bm_congr fun x hx => h x (Nat.lt_succ_of_lt hx), h n (Nat.lt_succ_self n)]
theorem bm_bit : ∀ (n : Nat) (p : Nat → Bool) (x : Nat), (bm n p).testBit x = (decide (x < n) && p x)
  | 0, p, x => by simp [bm]
  | n + 1, p, x => by
    have hlt := bm_lt n p
    have ih := bm_bit n p x
    rw [bm]
    by_cases hp : p n = true
    · rw [if_pos hp, Nat.add_comm]
      rcases Nat.lt_trichotomy x n with h | h | h
      · rw [Nat.testBit_two_pow_add_gt h, ih]
        simp [h, Nat.lt_succ_of_lt h]
      · subst h
        rw [Nat.testBit_two_pow_add_eq, ih]
        simp [hp]
      · have h2 : 2 ^ n + bm n p < 2 ^ x := by
          have h3 : 2 ^ (n + 1) ≤ 2 ^ x := Nat.pow_le_pow_right (by decide) h
          rw [Nat.pow_succ] at h3
          omega
        rw [Nat.testBit_lt_two_pow h2]
        have : ¬ x < n + 1 := by omega
        simp [this]
    · rw [if_neg hp, Nat.add_zero, ih]
      by_cases h : x < n
      · simp [h, Nat.lt_succ_of_lt h]
      · by_cases e : x = n
        · subst e
          simp [Bool.eq_false_iff.mpr hp]
        · have : ¬ x < n + 1 := by omega
          simp [h, this]
theorem bm_and (n : Nat) (p q : Nat → Bool) : bm n p &&& bm n q = bm n fun x => p x && q x := by
  apply Nat.eq_of_testBit_eq
  intro x
  rw [Nat.testBit_and, bm_bit, bm_bit, bm_bit]
  cases decide (x < n) <;> simp
theorem bm_zero {n : Nat} {p : Nat → Bool} : bm n p = 0 ↔ ∀ x, x < n → p x = false := by
  constructor
  · intro h x hx
    have := bm_bit n p x
    rw [h] at this
    simp [hx] at this
    exact this
  · intro h
    rw [bm_congr (q := fun _ => false) h]
    clear h
    induction n with
    | zero => rfl
    | succ n ih => rw [bm, ih]; simp
theorem bm_full : ∀ n : Nat, bm n (fun _ => true) = 2 ^ n - 1
  | 0 => rfl
  | n + 1 => by
    rw [bm, bm_full n, if_pos rfl, Nat.pow_succ]
    have : 0 < 2 ^ n := Nat.pos_of_ne_zero (by simp)
    omega
theorem bm_compl : ∀ (n : Nat) (p : Nat → Bool), bm n p + bm n (fun x => !p x) = 2 ^ n - 1
  | 0, p => rfl
  | n + 1, p => by
    have ih := bm_compl n p
    have : 0 < 2 ^ n := Nat.pos_of_ne_zero (by simp)
    rw [bm, bm, Nat.pow_succ]
    cases p n <;> simp <;> omega
theorem bm_add : ∀ {n : Nat} {p : Nat → Bool} {x : Nat}, x < n → p x = false → bm n p + 2 ^ x = bm n fun y => p y || decide (y = x)
  | 0, _, _, h, _ => by omega
  | n + 1, p, x, h, hp => by
    rw [bm, bm]
    by_cases e : x = n
    · subst e
      have e1 : bm x (fun y => p y || decide (y = x)) = bm x p := bm_congr fun y hy => by
        have : y ≠ x := Nat.ne_of_lt hy
        simp [this]
      rw [e1, hp]; simp
    · have ih := bm_add (n := n) (p := p) (x := x) (by omega) hp
      have e2 : (p n || decide (n = x)) = p n := by
        have : n ≠ x := fun z => e z.symm
        simp [this]
      rw [e2, ← ih]; omega
theorem bm_sub {n : Nat} {p : Nat → Bool} {x : Nat} (h : x < n) (hp : p x = true) : bm n p - 2 ^ x = bm n fun y => p y && !decide (y = x) := by
  have := bm_add (n := n) (p := fun y => p y && !decide (y = x)) (x := x) h (by simp)
  have e : bm n (fun y => (p y && !decide (y = x)) || decide (y = x)) = bm n p := bm_congr fun y hy => by
    by_cases z : y = x
    · subst z; simp [hp]
    · simp [z]
  rw [e] at this
  omega
theorem two_le_bm {n : Nat} {p : Nat → Bool} {x : Nat} (h : x < n) (hp : p x = true) : 2 ^ x ≤ bm n p := by
  have := bm_add (n := n) (p := fun y => p y && !decide (y = x)) (x := x) h (by simp)
  have e : bm n (fun y => (p y && !decide (y = x)) || decide (y = x)) = bm n p := bm_congr fun y hy => by
    by_cases z : y = x
    · subst z; simp [hp]
    · simp [z]
  rw [e] at this
  omega
/-- the sum of the powers of an ascending row -/
theorem bm_sum {n : Nat} : ∀ {S : List Nat}, canon n S → (S.map fun x => 2 ^ x).sum = bm n fun x => decide (x ∈ S) := by
  intro S
  induction S with
  | nil => intro _; rw [List.map_nil, List.sum_nil]; symm; rw [bm_zero]; intro x _; simp
  | cons a S ih =>
    intro h
    have hS : canon n S := ⟨(List.pairwise_cons.mp h.1).2, fun x hx => h.2 x (List.mem_cons_of_mem _ hx)⟩
    have ha : a ∉ S := fun m => Nat.lt_irrefl _ ((List.pairwise_cons.mp h.1).1 a m)
    rw [List.map_cons, List.sum_cons, ih hS, Nat.add_comm, bm_add (h.2 a List.mem_cons_self) (by simpa using ha)]
    exact bm_congr fun x _ => by simp [Bool.or_comm]
def saidM (w : Nat) (lots : List (List Nat)) : List Nat := lots.foldl (fun ms l => ms ++ ms.map fun m => m &&& bm w fun x => decide (x ∈ l)) [bm w fun _ => true]
/-- x is in all lots of the sublist s -/
def inter (lots : List (List Nat)) (s : Nat → Bool) (x : Nat) : Bool := (List.range lots.length).all fun i => !s i || decide (x ∈ lots.getD i [])
theorem inter_app {lots : List (List Nat)} {l : List Nat} {s : Nat → Bool} {x : Nat} : inter (lots ++ [l]) s x = (inter lots s x && (!s lots.length || decide (x ∈ l))) := by
  unfold inter
  rw [List.length_append, List.length_singleton, List.range_succ, List.all_append]
  congr 1
  · apply Bool.eq_iff_iff.mpr
    simp only [List.all_eq_true, List.mem_range]
    constructor <;> intro h i hi
    · have := h i hi
      have e : (lots ++ [l]).getD i [] = lots.getD i [] := by simp [List.getD, List.getElem?_append_left hi]
      rw [e] at this; exact this
    · have e : (lots ++ [l]).getD i [] = lots.getD i [] := by simp [List.getD, List.getElem?_append_left hi]
      rw [e]; exact h i hi
  · simp
theorem saidM_at (w : Nat) : ∀ lots : List (List Nat), (saidM w lots).length = 2 ^ lots.length ∧ ∀ s : Nat → Bool, (saidM w lots)[bm lots.length s]? = some (bm w (inter lots s)) := by
  intro lots
  induction hn : lots.length generalizing lots with
  | zero =>
    have : lots = [] := List.length_eq_zero_iff.mp hn
    subst this
    refine ⟨rfl, fun s => ?_⟩
    show some _ = some _
    congr 1
  | succ n ih =>
    rcases List.eq_nil_or_concat lots with e | ⟨T, l, e⟩
    · subst e; simp at hn
    · rw [List.concat_eq_append] at e
      subst e
      have hT : T.length = n := by simpa using hn
      obtain ⟨h1, h2⟩ := ih T hT
      have e1 : saidM w (T ++ [l]) = saidM w T ++ (saidM w T).map fun m => m &&& bm w fun x => decide (x ∈ l) := by
        unfold saidM; rw [List.foldl_append]; rfl
      rw [e1]
      refine ⟨by rw [List.length_append, List.length_map, h1, Nat.pow_succ]; omega, fun s => ?_⟩
      have hlt := bm_lt n s
      rw [bm]
      cases hs : s n with
      | false =>
        simp only [Bool.false_eq_true, if_false, Nat.add_zero]
        rw [List.getElem?_append_left (by rw [h1]; exact hlt), h2 s]
        congr 1
        refine bm_congr fun x _ => ?_
        rw [inter_app, hT, hs]; simp
      | true =>
        simp only [if_true]
        rw [List.getElem?_append_right (by rw [h1]; omega), h1, Nat.add_sub_cancel, List.getElem?_map, h2 s]
        simp only [Option.map_some]
        congr 1
        rw [bm_and]
        refine bm_congr fun x _ => ?_
        rw [inter_app, hT, hs]; simp
end Nb
end
section
set_option Elab.async false
set_option linter.all false
set_option maxRecDepth 100000
set_option maxHeartbeats 1000000
namespace Nb
theorem lcGo_map {β : Type} {n : Nat} {turn : D → Hpp → R (Option D)} {h : Hpp} {inj : β → D} {g : β → D} (hn : h.length = n) (hr : ∀ y, (g y).isRef = false) :
    ∀ {l : List β} {acc : List D}, (∀ y ∈ l, ∀ c, turn (inj y) (h ++ [c]) = .ok (some (g y)) (h ++ [c])) → lcGo n [] turn acc (l.map inj) (h ++ [.lst acc]) = .ok (acc ++ l.map g) (h ++ [.lst (acc ++ l.map g)])
  | [], acc, _ => by
    rw [List.map_nil, lcGo, if_pos ⟨srcOk_nil _, by subst hn; simp⟩]; simp
  | y :: l, acc, ht => by
    rw [List.map_cons, lcGo, if_pos (srcOk_nil _), ht y List.mem_cons_self]
    simp only
    rw [if_pos ⟨hr y, by subst hn; simp⟩]
    have e : (h ++ [Cell.lst acc]).set n (Cell.lst (acc ++ [g y])) = h ++ [Cell.lst (acc ++ [g y])] := by subst hn; simp
    rw [e, lcGo_map hn hr fun z hz => ht z (List.mem_cons_of_mem _ hz)]
    simp
theorem lcGo2_map {α β : Type} {n : Nat} {t t1 : Tg} {tt tt1 : M Bool} {mi1 : M ItS} {te : EM} {vs1 : List Nat} {env : Env} {h : Hpp} {inj : α → D} {inj1 : β → D} {ys : α → List β} {g : α → β → D} (hn : h.length = n) (hr : ∀ x y, (g x y).isRef = false) :
    ∀ {xs : List α} {acc : List D}, (∀ x ∈ xs, ∃ e, t (inj x) env = some e ∧ ∀ c, tt e (h ++ [c]) = .ok true (h ++ [c]) ∧ mi1 e (h ++ [c]) = .ok ⟨(ys x).map inj1, []⟩ (h ++ [c]) ∧ ∀ y ∈ ys x, lcTurn t1 tt1 te (wipeE e vs1) (inj1 y) (h ++ [c]) = .ok (some (g x y)) (h ++ [c])) →
      acc.length + (xs.flatMap ys).length ≤ 16777216 →
      lcGo2 n [] t tt mi1 t1 tt1 te vs1 env acc (xs.map inj) (h ++ [.lst acc]) = .ok (acc ++ xs.flatMap fun x => (ys x).map (g x)) (h ++ [.lst (acc ++ xs.flatMap fun x => (ys x).map (g x))])
  | [], acc, _, _ => by
    rw [List.map_nil, lcGo2, if_pos ⟨srcOk_nil _, by subst hn; simp⟩]; simp
  | x :: xs, acc, ht, hz => by
    obtain ⟨e, e1, e2⟩ := ht x List.mem_cons_self
    obtain ⟨e3, e4, _⟩ := e2 (.lst acc)
    rw [List.flatMap_cons, List.length_append] at hz
    rw [List.map_cons, lcGo2, if_pos (srcOk_nil _), e1]
    simp only [e3, e4]
    rw [if_pos (by rw [List.length_map]; show _ ≤ 16777216; omega)]
    rw [lcGo_map hn (hr x) fun y hy c => (e2 c).2.2 y hy]
    simp only
    rw [lcGo2_map hn hr (fun z hz => ht z (List.mem_cons_of_mem _ hz)) (by rw [List.length_append, List.length_map]; omega)]
    simp
theorem lc2_map {α β : Type} {mi : M ItS} {t t1 : Tg} {tt tt1 : M Bool} {mi1 : M ItS} {te : EM} {vs vs1 : List Nat} {env : Env} {h : Hpp} (inj : α → D) (inj1 : β → D) (xs : List α) (ys : α → List β) (g : α → β → D) (hmi : mi env h = .ok ⟨xs.map inj, []⟩ h)
    (ht : ∀ x ∈ xs, ∃ e, t (inj x) (wipeE env vs) = some e ∧ ∀ c, tt e (h ++ [c]) = .ok true (h ++ [c]) ∧ mi1 e (h ++ [c]) = .ok ⟨(ys x).map inj1, []⟩ (h ++ [c]) ∧ ∀ y ∈ ys x, lcTurn t1 tt1 te (wipeE e vs1) (inj1 y) (h ++ [c]) = .ok (some (g x y)) (h ++ [c]))
    (hr : ∀ x y, (g x y).isRef = false) (hz : (xs.flatMap ys).length ≤ 16777216) : eLc2 false mi t tt mi1 t1 tt1 te vs vs1 env h = .ok (.lst (xs.flatMap fun x => (ys x).map (g x))) h := by
  unfold eLc2
  rw [hmi]
  simp only [R.bind]
  rw [lcGo2_map rfl hr ht (by simpa using hz)]
  simp [R.bind]
end Nb
end
section
set_option Elab.async false
set_option linter.all false
set_option maxRecDepth 100000
set_option maxHeartbeats 0
namespace Law
open PySem PySem.Spec PyProof.Rows L2 Nb
def top (i : Nat) : Stmt := PySem.Challenge.pw_newsbooks_k95_rests_and_kernels.main.body.getD i (.Pass ⟨0, 0, 0, 0⟩)
def clBody : Stmt → List Stmt
  | .ClassDef _ _ _ b _ _ _ _ _ _ _ => b
  | _ => []
def meth (i : Nat) : Stmt := (clBody (top i)).getD 0 (.Pass ⟨0, 0, 0, 0⟩)
abbrev clsN : List Str := ["NewsError", "BadNumber", "BadLot", "BadOrder", "BadBase", "TooMany"]
--SEM
noncomputable def m_whole_number : SM := (sRet (eAnd (eCall fIsi (aCons (eVar 0) (aCons (eC (.ty "int")) aNil))) (eNot (eCall fIsi (aCons (eVar 0) (aCons (eC (.ty "bool")) aNil))))))
noncomputable def F_whole_number : FM := fnM 1 false m_whole_number
noncomputable def m_is_row : SM := (sRet (eIsiT (eVar 0) ["list", "tuple"]))
noncomputable def F_is_row : FM := fnM 1 false m_is_row
noncomputable def m_check_worlds : SM := (sIf (bOr (bNot (bTru (eFn 1 F_whole_number (aCons (eVar 0) aNil)))) (bOr (bOp (oCmp (fun i j => decide (i < j))) (eVar 0) (eC (.int 1))) (bOp (oCmp (fun i j => decide (j < i))) (eVar 0) (eC (.int 12))))) (sRaise 1 "name" (eC (.str ("worlds" : Str)))) sNil)
noncomputable def F_check_worlds : FM := fnM 1 false m_check_worlds
noncomputable def m_is_world : SM := (sRet (eAnd (eFn 1 F_whole_number (aCons (eVar 0) aNil)) (eChain (oCmp (fun i j => decide (i ≤ j))) (oCmp (fun i j => decide (i < j))) (eC (.int 0)) (eVar 0) (eVar 1))))
noncomputable def F_is_world : FM := fnM 2 false m_is_world
noncomputable def m_first_stranger : SM := (sSeq (sSet 2 (eLst true aNil))
  (sSeq (sFor (iEnu (aCons (eVar 0) aNil)) (tgT [3, 4]) (sSeq (sIf (bOr (bNot (bTru (eFn 2 F_is_world (aCons (eVar 4) (aCons (eVar 1) aNil))))) (bOp (oIn false) (eVar 4) (eVar 2))) (sRet (eVar 3)) sNil)
  (sExpr (eMt (eVar 2) (aCons (eVar 4) aNil) fAppend))))
  (sRet (eC .non))))
noncomputable def F_first_stranger : FM := fnM 5 false m_first_stranger
noncomputable def m_lot_of : SM := (sSeq (sExpr (eFn 1 F_check_worlds (aCons (eVar 1) aNil)))
  (sSeq (sIf (bNot (bTru (eFn 1 F_is_row (aCons (eVar 0) aNil)))) (sRaise 2 "place" (eNeg (eC (.int 1)))) sNil)
  (sSeq (sSet 3 (eFn 2 F_first_stranger (aCons (eVar 0) (aCons (eVar 1) aNil))))
  (sSeq (sIf (bOp (oIs true) (eVar 3) (eC .non)) (sRaise 2 "place" (eVar 3)) sNil)
  (sSeq (sIf (bAnd (bNot (bTru (eVar 0))) (bNot (bTru (eVar 2)))) (sRaise 2 "place" (eNeg (eC (.int 1)))) sNil)
  (sRet (eCall fTuple (aCons (eCall (fSortedA false) (aCons (eVar 0) aNil)) aNil))))))))
noncomputable def F_lot_of : FM := fnM 4 false m_lot_of
noncomputable def m_every : SM := (sSeq (sExpr (eFn 1 F_check_worlds (aCons (eVar 0) aNil)))
  (sRet (eTupRg (mRg1 (eVar 0)))))
noncomputable def F_every : FM := fnM 1 false m_every
noncomputable def m_inside : SM := (sRet (eCall fAll (aCons (eLc false (iAny (eVar 0)) (tgN 2) bYes (eOp (oIn false) (eVar 2) (eVar 1)) [2]) aNil)))
noncomputable def F_inside : FM := fnM 3 false m_inside
noncomputable def m_meets : SM := (sRet (eCall fAny (aCons (eLc false (iAny (eVar 0)) (tgN 2) bYes (eOp (oIn false) (eVar 2) (eVar 1)) [2]) aNil)))
noncomputable def F_meets : FM := fnM 3 false m_meets
noncomputable def m_lot_list : SM := (sSeq (sSet 2 (eLst true aNil))
  (sSeq (sSet 3 (eLst false (aCons (eTup aNil) aNil)))
  (sSeq (whGo (bAnd (bTru (eVar 3)) (bOp (oCmp (fun i j => decide (i ≤ j))) (eCall fLen (aCons (eOp oIx (eVar 3) (eC (.int 0))) aNil)) (eVar 1))) (sSeq (sExpr (eMt (eVar 2) (aCons (eCall (fList false) (aCons (eVar 3) aNil)) aNil) fExtend))
  (sSet 3 (eLc2 false (iAny (eVar 3)) (tgN 4) bYes (iRg2 (aCons (eIf (bTru (eVar 4)) (eOp oAdd (eOp oIx (eVar 4) (eNeg (eC (.int 1)))) (eC (.int 1))) (eC (.int 0))) (aCons (eVar 0) aNil))) (tgN 5) bYes (eOp oAdd (eVar 4) (eTup (aCons (eVar 5) aNil))) [4, 5] [5]))) 64)
  (sRet (eVar 2)))))
noncomputable def F_lot_list : FM := fnM 6 false m_lot_list
noncomputable def m_base_lots : SM := (sSeq (sExpr (eFn 1 F_check_worlds (aCons (eVar 1) aNil)))
  (sSeq (sIf (bNot (bTru (eFn 1 F_is_row (aCons (eVar 0) aNil)))) (sRaise 4 "place" (eNeg (eC (.int 1)))) sNil)
  (sSeq (sSet 3 (eLst true aNil))
  (sSeq (sFor (iEnu (aCons (eVar 0) aNil)) (tgT [4, 5]) (sTryOnly [2] (sExpr (eMt (eVar 3) (aCons (eFnK 2 1 F_lot_of (aCons (eVar 5) (aCons (eVar 1) aNil)) (aCons (eVar 2) aNil)) aNil) fAppend)) (sRaise 4 "place" (eVar 4))))
  (sSeq (sIf (bOp (oCmp (fun i j => decide (j < i))) (eCall fLen (aCons (eVar 3) aNil)) (eC (.int 8))) (sRaise 5 "limit" (eC (.int 8))) sNil)
  (sRet (eCall fTuple (aCons (eVar 3) aNil))))))))
noncomputable def F_base_lots : FM := fnM 6 false m_base_lots
noncomputable def m_base_of : SM := (sRet (eFn 3 F_base_lots (aCons (eVar 0) (aCons (eVar 1) (aCons (eC (.bl true)) aNil)))))
noncomputable def F_base_of : FM := fnM 2 false m_base_of
noncomputable def m_places_of : SM := (sSeq (sIf (bNot (bTru (eFn 1 F_is_row (aCons (eVar 0) aNil)))) (sRaise 3 "place" (eNeg (eC (.int 1)))) sNil)
  (sSeq (sSet 2 (eFn 2 F_first_stranger (aCons (eVar 0) (aCons (eVar 1) aNil))))
  (sSeq (sIf (bOp (oIs true) (eVar 2) (eC .non)) (sRaise 3 "place" (eVar 2)) sNil)
  (sRet (eCall fTuple (aCons (eCall (fSortedA false) (aCons (eVar 0) aNil)) aNil))))))
noncomputable def F_places_of : FM := fnM 3 false m_places_of
noncomputable def m_sublist_of : SM := (sRet (eFn 2 F_places_of (aCons (eVar 2) (aCons (eCall fLen (aCons (eFn 2 F_base_of (aCons (eVar 0) (aCons (eVar 1) aNil))) aNil)) aNil))))
noncomputable def F_sublist_of : FM := fnM 3 false m_sublist_of
noncomputable def m_says : SM := (sSeq (sSet 3 (eFn 2 F_base_of (aCons (eVar 0) (aCons (eVar 1) aNil))))
  (sSeq (sSet 4 (eFn 2 F_places_of (aCons (eVar 2) (aCons (eCall fLen (aCons (eVar 3) aNil)) aNil))))
  (sRet (eCall fTuple (aCons (eLc false (iAny (eFn 1 F_every (aCons (eVar 1) aNil))) (tgN 5) (bTru (eCall fAll (aCons (eLc false (iAny (eVar 4)) (tgN 6) bYes (eOp (oIn false) (eVar 5) (eOp oIx (eVar 3) (eVar 6))) [6]) aNil))) (eVar 5) [5]) aNil)))))
noncomputable def F_says : FM := fnM 7 false m_says
noncomputable def m_carries : SM := (sSeq (sSet 4 (eFn 3 F_says (aCons (eVar 0) (aCons (eVar 1) (aCons (eVar 2) aNil)))))
  (sRet (eFn 2 F_inside (aCons (eVar 4) (aCons (eFnD 3 F_lot_of [.bl true] (aCons (eVar 3) (aCons (eVar 1) aNil))) aNil)))))
noncomputable def F_carries : FM := fnM 5 false m_carries
noncomputable def m_check_places_many : SM := (sIf (bOr (bNot (bTru (eFn 1 F_whole_number (aCons (eVar 0) aNil)))) (bNot (asB (eChain (oCmp (fun i j => decide (i ≤ j))) (oCmp (fun i j => decide (i ≤ j))) (eC (.int 0)) (eVar 0) (eC (.int 8)))))) (sRaise 1 "name" (eC (.str ("many" : Str)))) sNil)
noncomputable def F_check_places_many : FM := fnM 1 false m_check_places_many
noncomputable def m_all_sublists : SM := (sSeq (sExpr (eFn 1 F_check_places_many (aCons (eVar 0) aNil)))
  (sRet (eCall fTuple (aCons (eFn 2 F_lot_list (aCons (eVar 0) (aCons (eVar 0) aNil))) aNil))))
noncomputable def F_all_sublists : FM := fnM 1 false m_all_sublists
noncomputable def m_but_not_all : SM := (sSeq (sSet 2 (eFnD 3 F_lot_of [.bl true] (aCons (eVar 0) (aCons (eVar 1) aNil))))
  (sSeq (sIf (bOp oEq (eCall fLen (aCons (eVar 2) aNil)) (eVar 1)) (sRaise 2 "place" (eNeg (eC (.int 1)))) sNil)
  (sRet (eVar 2))))
noncomputable def F_but_not_all : FM := fnM 3 false m_but_not_all
noncomputable def m_mask_of : SM := (sRet (eCall fSum (aCons (eLc false (iAny (eVar 0)) (tgN 1) bYes (eOp oShl (eC (.int 1)) (eVar 1)) [1]) aNil)))
noncomputable def F_mask_of : FM := fnM 2 false m_mask_of
noncomputable def m_said_masks : SM := (sSeq (sSet 2 (eLst false (aCons (eOp oSub (eOp oShl (eC (.int 1)) (eVar 1)) (eC (.int 1))) aNil)))
  (sSeq (sFor (iAny (eVar 0)) (tgN 3) (sSeq (sSet 4 (eFn 1 F_mask_of (aCons (eVar 3) aNil)))
  (sSet 2 (eOp oAdd (eVar 2) (eLc false (iAny (eVar 2)) (tgN 5) bYes (eOp oAnd (eVar 5) (eVar 4)) [5])))))
  (sRet (eVar 2))))
noncomputable def F_said_masks : FM := fnM 6 false m_said_masks
noncomputable def m_carrying : SM := (sSeq (sSet 3 (eOp oSub (eOp oSub (eOp oShl (eC (.int 1)) (eVar 1)) (eC (.int 1))) (eFn 1 F_mask_of (aCons (eVar 2) aNil))))
  (sRet (eLc false (iAny (eFn 2 F_said_masks (aCons (eVar 0) (aCons (eVar 1) aNil)))) (tgN 4) bYes (eOp oEq (eOp oAnd (eVar 4) (eVar 3)) (eC (.int 0))) [4])))
noncomputable def F_carrying : FM := fnM 5 false m_carrying
noncomputable def m_rests : SM := (sSeq (sSet 3 (eFn 2 F_base_of (aCons (eVar 0) (aCons (eVar 1) aNil))))
  (sSeq (sSet 4 (eFn 3 F_carrying (aCons (eVar 3) (aCons (eVar 1) (aCons (eFn 2 F_but_not_all (aCons (eVar 2) (aCons (eVar 1) aNil))) aNil)))))
  (sSeq (sSet 5 (eLst true aNil))
  (sSeq (sFor (iAny (eFn 2 F_lot_list (aCons (eCall fLen (aCons (eVar 3) aNil)) (aCons (eCall fLen (aCons (eVar 3) aNil)) aNil)))) (tgN 6) (sSeq (sSet 7 (eFn 1 F_mask_of (aCons (eVar 6) aNil)))
  (sSeq (sSet 8 (eLc false (iRg1 (aCons (eCall fLen (aCons (eVar 3) aNil)) aNil)) (tgN 9) (bOp (oIn true) (eVar 9) (eVar 6)) (eOp oIx (eVar 4) (eOp oAdd (eVar 7) (eOp oShl (eC (.int 1)) (eVar 9)))) [9]))
  (sIf (bAnd (bNot (bTru (eOp oIx (eVar 4) (eVar 7)))) (bTru (eCall fAll (aCons (eVar 8) aNil)))) (sExpr (eMt (eVar 5) (aCons (eVar 6) aNil) fAppend)) sNil))))
  (sRet (eCall fTuple (aCons (eVar 5) aNil)))))))
noncomputable def F_rests : FM := fnM 10 false m_rests
noncomputable def m_kernels : SM := (sSeq (sSet 3 (eFn 2 F_base_of (aCons (eVar 0) (aCons (eVar 1) aNil))))
  (sSeq (sSet 4 (eFn 3 F_carrying (aCons (eVar 3) (aCons (eVar 1) (aCons (eFn 2 F_but_not_all (aCons (eVar 2) (aCons (eVar 1) aNil))) aNil)))))
  (sSeq (sSet 5 (eLst true aNil))
  (sSeq (sFor (iAny (eFn 2 F_lot_list (aCons (eCall fLen (aCons (eVar 3) aNil)) (aCons (eCall fLen (aCons (eVar 3) aNil)) aNil)))) (tgN 6) (sSeq (sSet 7 (eFn 1 F_mask_of (aCons (eVar 6) aNil)))
  (sIf (bAnd (bTru (eOp oIx (eVar 4) (eVar 7))) (bNot (bTru (eCall fAny (aCons (eLc false (iAny (eVar 6)) (tgN 8) bYes (eOp oIx (eVar 4) (eOp oSub (eVar 7) (eOp oShl (eC (.int 1)) (eVar 8)))) [8]) aNil))))) (sExpr (eMt (eVar 5) (aCons (eVar 6) aNil) fAppend)) sNil)))
  (sRet (eCall fTuple (aCons (eVar 5) aNil)))))))
noncomputable def F_kernels : FM := fnM 9 false m_kernels
noncomputable def m_hitting : SM := (sSeq (sExpr (eFn 1 F_check_places_many (aCons (eVar 1) aNil)))
  (sSeq (sIf (bNot (bTru (eFn 1 F_is_row (aCons (eVar 0) aNil)))) (sRaise 3 "place" (eNeg (eC (.int 1)))) sNil)
  (sSeq (sSet 2 (eLst true aNil))
  (sSeq (sFor (iEnu (aCons (eVar 0) aNil)) (tgT [5, 4]) (sTryOnly [3] (sExpr (eMt (eVar 2) (aCons (eFn 2 F_places_of (aCons (eVar 4) (aCons (eVar 1) aNil))) aNil) fAppend)) (sRaise 3 "place" (eVar 5))))
  (sSeq (sSet 3 (eLst true aNil))
  (sSeq (sFor (iAny (eFn 2 F_lot_list (aCons (eVar 1) (aCons (eVar 1) aNil)))) (tgN 4) (sIf (bAnd (bTru (eCall fAll (aCons (eLc false (iAny (eVar 2)) (tgN 6) bYes (eFn 2 F_meets (aCons (eVar 4) (aCons (eVar 6) aNil))) [6]) aNil))) (bNot (bTru (eCall fAny (aCons (eLc false (iAny (eVar 3)) (tgN 7) bYes (eFn 2 F_inside (aCons (eVar 7) (aCons (eVar 4) aNil))) [7]) aNil))))) (sExpr (eMt (eVar 3) (aCons (eVar 4) aNil) fAppend)) sNil))
  (sRet (eCall fTuple (aCons (eVar 3) aNil)))))))))
noncomputable def F_hitting : FM := fnM 8 false m_hitting
noncomputable def m_left_out : SM := (sSeq (sExpr (eFn 1 F_check_places_many (aCons (eVar 1) aNil)))
  (sSeq (sSet 2 (eFn 2 F_places_of (aCons (eVar 0) (aCons (eVar 1) aNil))))
  (sRet (eCall fTuple (aCons (eLc false (iRg1 (aCons (eVar 1) aNil)) (tgN 3) (bOp (oIn true) (eVar 3) (eVar 2)) (eVar 3) [3]) aNil)))))
noncomputable def F_left_out : FM := fnM 4 false m_left_out
noncomputable def m_in_every_rest : SM := (sSeq (sSet 3 (eFn 3 F_rests (aCons (eVar 0) (aCons (eVar 1) (aCons (eVar 2) aNil)))))
  (sRet (eCall fTuple (aCons (eLc false (iRg1 (aCons (eCall fLen (aCons (eVar 0) aNil)) aNil)) (tgN 4) (bTru (eCall fAll (aCons (eLc false (iAny (eVar 3)) (tgN 5) bYes (eOp (oIn false) (eVar 4) (eVar 5)) [5]) aNil))) (eVar 4) [4]) aNil))))
noncomputable def F_in_every_rest : FM := fnM 6 false m_in_every_rest
noncomputable def m_in_no_kernel : SM := (sSeq (sSet 3 (eFn 3 F_kernels (aCons (eVar 0) (aCons (eVar 1) (aCons (eVar 2) aNil)))))
  (sRet (eCall fTuple (aCons (eLc false (iRg1 (aCons (eCall fLen (aCons (eVar 0) aNil)) aNil)) (tgN 4) (bNot (bTru (eCall fAny (aCons (eLc false (iAny (eVar 3)) (tgN 5) bYes (eOp (oIn false) (eVar 4) (eVar 5)) [5]) aNil)))) (eVar 4) [4]) aNil))))
noncomputable def F_in_no_kernel : FM := fnM 6 false m_in_no_kernel
noncomputable def m_is_rest : SM := (sSeq (sSet 4 (eFn 3 F_rests (aCons (eVar 0) (aCons (eVar 1) (aCons (eVar 2) aNil)))))
  (sRet (eOp (oIn false) (eFn 2 F_places_of (aCons (eVar 3) (aCons (eCall fLen (aCons (eVar 0) aNil)) aNil))) (eVar 4))))
noncomputable def F_is_rest : FM := fnM 5 false m_is_rest
noncomputable def m__law_draws : SM := (sSeq (sSet 1 (eLst true aNil))
  (sSeq (sFor (iRg1 (aCons (eCall fMin2 (aCons (eCall fLen (aCons (eVar 0) aNil)) (aCons (eC (.int 63)) aNil))) aNil)) (tgN 2) (sSeq (sSet 3 (eCall fInt (aCons (eOp oIx (eVar 0) (eVar 2)) aNil)))
  (sSeq (sIf (bOp (oCmp (fun i j => decide (i < j))) (eVar 3) (eC (.int 0))) (sSet 3 (eOp oSub (eC (.int 7)) (eVar 3))) sNil)
  (sIf (bOp (oCmp (fun i j => decide (j ≤ i))) (eVar 3) (eOp oPow (eC (.int 10)) (eC (.int 18)))) (sFor (iRg1 (aCons (eC (.int 50)) aNil)) (tgN 4) (sIf (bOp (oCmp (fun i j => decide (j < i))) (eVar 3) (eC (.int 0))) (sSeq (sExpr (eMt (eVar 1) (aCons (eOp oMod (eCall fInt (aCons (eVar 3) aNil)) (eC (.int 30))) aNil) fAppend))
  (sSet 3 (eOp oDiv (eVar 3) (eC (.int 30))))) sNil)) (sSeq (sSet 5 (eOp oMod (eCall fInt (aCons (eOp oAdd (eOp oAdd (eOp oMul (eVar 3) (eC (.int 48271))) (eOp oMul (eVar 2) (eC (.int 6007)))) (eC (.int 17))) aNil)) (eC (.int 2147483629))))
  (sFor (iRg1 (aCons (eC (.int 6)) aNil)) (tgN 4) (sSeq (sSet 5 (eOp oMod (eCall fInt (aCons (eOp oAdd (eOp oAdd (eOp oAdd (eOp oMul (eVar 5) (eVar 5)) (eOp oMul (eVar 4) (eC (.int 90001)))) (eOp oMul (eVar 2) (eC (.int 43)))) (eC (.int 3))) aNil)) (eC (.int 2147483587))))
  (sExpr (eMt (eVar 1) (aCons (eVar 5) aNil) fAppend)))))))))
  (sRet (eRev true (eVar 1)))))
noncomputable def F__law_draws : FM := fnM 6 true m__law_draws
noncomputable def m__law_take : SM := (sSeq (sIf (bOp oEq (eCall fLen (aCons (eVar 0) aNil)) (eC (.int 0))) (sRet (eC (.int 0))) sNil)
  (sRet (eOp oMod (eCall fInt (aCons (eMt (eVar 0) aNil fPop) aNil)) (eVar 1))))
noncomputable def F__law_take : FM := fnM 2 false m__law_take
noncomputable def m__law_int : SM := (sRet (eAnd (eCall fIsi (aCons (eVar 0) (aCons (eC (.ty "int")) aNil))) (eNot (eCall fIsi (aCons (eVar 0) (aCons (eC (.ty "bool")) aNil))))))
noncomputable def F__law_int : FM := fnM 1 false m__law_int
noncomputable def m__law_lot_kind : SM := (sSeq (sIf (bNot (bTru (eCall fIsi (aCons (eVar 0) (aCons (eC (.ty "tuple")) aNil))))) (sRet (eC (.bl false))) sNil)
  (sSeq (sSet 2 (eNeg (eC (.int 1))))
  (sSeq (sFor (iAny (eVar 0)) (tgN 3) (sSeq (sIf (bOr (bNot (bTru (eFn 1 F__law_int (aCons (eVar 3) aNil)))) (bOr (bOp (oCmp (fun i j => decide (i ≤ j))) (eVar 3) (eVar 2)) (bOp (oCmp (fun i j => decide (j ≤ i))) (eVar 3) (eVar 1)))) (sRet (eC (.bl false))) sNil)
  (sSet 2 (eVar 3))))
  (sRet (eC (.bl true))))))
noncomputable def F__law_lot_kind : FM := fnM 4 false m__law_lot_kind
noncomputable def m__law_lots : SM := (sSeq (sSet 1 (eLst false (aCons (eTup aNil) aNil)))
  (sSeq (sFor (iRg1 (aCons (eVar 0) aNil)) (tgN 2) (sSet 1 (eOp oAdd (eVar 1) (eLc false (iAny (eVar 1)) (tgN 5) bYes (eOp oAdd (eVar 5) (eTup (aCons (eVar 2) aNil))) [5]))))
  (sSeq (sSet 3 (eLst false aNil))
  (sSeq (sFor (iRg1 (aCons (eOp oAdd (eVar 0) (eC (.int 1))) aNil)) (tgN 4) (sSet 3 (eOp oAdd (eVar 3) (eCall (fSortedT false) (aCons (eLc false (iAny (eVar 1)) (tgN 5) (bOp oEq (eCall fLen (aCons (eVar 5) aNil)) (eVar 4)) (eVar 5) [5]) aNil)))))
  (sRet (eVar 3))))))
noncomputable def F__law_lots : FM := fnM 6 false m__law_lots
noncomputable def m__law_lot : SM := (sRet (eCall fTuple (aCons (eLc false (iRg1 (aCons (eVar 1) aNil)) (tgN 2) (bOp oEq (eFn 2 F__law_take (aCons (eVar 0) (aCons (eC (.int 2)) aNil))) (eC (.int 1))) (eVar 2) [2]) aNil)))
noncomputable def F__law_lot : FM := fnM 3 false m__law_lot
noncomputable def m__law_some : SM := (sSeq (sSet 2 (eFn 2 F__law_take (aCons (eVar 0) (aCons (eVar 1) aNil))))
  (sSeq (sSet 3 (eFn 2 F__law_lot (aCons (eVar 0) (aCons (eVar 1) aNil))))
  (sRet (eCall fTuple (aCons (eLc false (iRg1 (aCons (eVar 1) aNil)) (tgN 4) (bOr (bOp oEq (eVar 4) (eVar 2)) (bOp (oIn false) (eVar 4) (eVar 3))) (eVar 4) [4]) aNil)))))
noncomputable def F__law_some : FM := fnM 5 false m__law_some
noncomputable def m__law_short : SM := (sSeq (sSet 2 (eFn 2 F__law_take (aCons (eVar 0) (aCons (eVar 1) aNil))))
  (sSeq (sSet 3 (eFn 2 F__law_lot (aCons (eVar 0) (aCons (eVar 1) aNil))))
  (sRet (eCall fTuple (aCons (eLc false (iAny (eVar 3)) (tgN 4) (bOp oNe (eVar 4) (eVar 2)) (eVar 4) [4]) aNil)))))
noncomputable def F__law_short : FM := fnM 5 false m__law_short
noncomputable def m__law_common : SM := (sRet (eCall fTuple (aCons (eLc false (iAny (eVar 0)) (tgN 2) (bOp (oIn false) (eVar 2) (eVar 1)) (eVar 2) [2]) aNil)))
noncomputable def F__law_common : FM := fnM 3 false m__law_common
noncomputable def m__law_plus : SM := (sRet (eCall fTuple (aCons (eCall (fSortedI false) (aCons (eOp oAdd (eCall (fList false) (aCons (eVar 0) aNil)) (eLc false (iAny (eVar 1)) (tgN 2) (bOp (oIn true) (eVar 2) (eVar 0)) (eVar 2) [2])) aNil)) aNil)))
noncomputable def F__law_plus : FM := fnM 3 false m__law_plus
noncomputable def m__law_inside : SM := (sRet (eOp oEq (eCall fLen (aCons (eLc false (iAny (eVar 0)) (tgN 2) (bOp (oIn true) (eVar 2) (eVar 1)) (eVar 2) [2]) aNil)) (eC (.int 0))))
noncomputable def F__law_inside : FM := fnM 3 false m__law_inside
noncomputable def m__law_same : SM := (sSeq (sIf (bTru (eVar 1)) (sRet (eOp (oIs false) (eVar 0) (eC (.bl true)))) sNil)
  (sRet (eOp (oIs false) (eVar 0) (eC (.bl false)))))
noncomputable def F__law_same : FM := fnM 2 false m__law_same
noncomputable def m__law_base : SM := (sSeq (sSet 4 (eLst true aNil))
  (sSeq (sFor (iRg1 (aCons (eVar 2) aNil)) (tgN 5) (sSeq (sSet 6 (eFn 2 F__law_take (aCons (eVar 0) (aCons (eC (.int 6)) aNil))))
  (sIf (bAnd (bOp oEq (eVar 6) (eC (.int 5))) (bOp (oCmp (fun i j => decide (j < i))) (eCall fLen (aCons (eVar 4) aNil)) (eC (.int 0)))) (sExpr (eMt (eVar 4) (aCons (eOp oIx (eVar 4) (eFn 2 F__law_take (aCons (eVar 0) (aCons (eCall fLen (aCons (eVar 4) aNil)) aNil)))) aNil) fAppend)) (sIf (bAnd (bOp oEq (eVar 6) (eC (.int 4))) (bOp oEq (eVar 3) (eC (.int 0)))) (sExpr (eMt (eVar 4) (aCons (eTup aNil) aNil) fAppend)) (sIf (bOp oEq (eVar 6) (eC (.int 3))) (sExpr (eMt (eVar 4) (aCons (eTupRg (mRg1 (eVar 1))) aNil) fAppend)) (sExpr (eMt (eVar 4) (aCons (eFn 2 F__law_some (aCons (eVar 0) (aCons (eVar 1) aNil))) aNil) fAppend)))))))
  (sRet (eVar 4))))
noncomputable def F__law_base : FM := fnM 7 false m__law_base
noncomputable def m__law_says : SM := (sSeq (sSet 3 (eTupRg (mRg1 (eVar 1))))
  (sSeq (sFor (iAny (eVar 2)) (tgN 4) (sSet 3 (eFn 2 F__law_common (aCons (eVar 3) (aCons (eOp oIx (eVar 0) (eVar 4)) aNil)))))
  (sRet (eVar 3))))
noncomputable def F__law_says : FM := fnM 5 false m__law_says
noncomputable def m__law_carried : SM := (sSeq (sSet 3 (eLst true aNil))
  (sSeq (sFor (iAny (eFn 1 F__law_lots (aCons (eCall fLen (aCons (eVar 0) aNil)) aNil))) (tgN 4) (sIf (bTru (eFn 2 F__law_inside (aCons (eFn 3 F__law_says (aCons (eVar 0) (aCons (eVar 1) (aCons (eVar 4) aNil)))) (aCons (eVar 2) aNil)))) (sExpr (eMt (eVar 3) (aCons (eVar 4) aNil) fAppend)) sNil))
  (sRet (eVar 3))))
noncomputable def F__law_carried : FM := fnM 5 false m__law_carried
noncomputable def m__law_rests : SM := (sSeq (sSet 2 (eLst true aNil))
  (sSeq (sFor (iAny (eFn 1 F__law_lots (aCons (eVar 0) aNil))) (tgN 3) (sIf (bOp (oIn true) (eVar 3) (eVar 1)) (sSeq (sSet 4 (eLc false (iRg1 (aCons (eVar 0) aNil)) (tgN 5) (bOp (oIn true) (eVar 5) (eVar 3)) (eVar 5) [5]))
  (sIf (bOp oEq (eCall fLen (aCons (eLc false (iAny (eVar 4)) (tgN 5) (bOp (oIn true) (eFn 2 F__law_plus (aCons (eVar 3) (aCons (eTup (aCons (eVar 5) aNil)) aNil))) (eVar 1)) (eVar 5) [5]) aNil)) (eC (.int 0))) (sExpr (eMt (eVar 2) (aCons (eVar 3) aNil) fAppend)) sNil)) sNil))
  (sRet (eVar 2))))
noncomputable def F__law_rests : FM := fnM 6 false m__law_rests
noncomputable def m__law_kernels : SM := (sSeq (sSet 1 (eLst true aNil))
  (sSeq (sFor (iAny (eVar 0)) (tgN 2) (sIf (bOp oEq (eCall fLen (aCons (eLc false (iAny (eVar 1)) (tgN 3) (bTru (eFn 2 F__law_inside (aCons (eVar 3) (aCons (eVar 2) aNil)))) (eVar 3) [3]) aNil)) (eC (.int 0))) (sExpr (eMt (eVar 1) (aCons (eVar 2) aNil) fAppend)) sNil))
  (sRet (eVar 1))))
noncomputable def F__law_kernels : FM := fnM 4 false m__law_kernels
noncomputable def m__law_places : SM := (sRet (eCall fTuple (aCons (eLc false (iRg1 (aCons (eVar 1) aNil)) (tgN 2) (bOp (oIn true) (eVar 2) (eVar 0)) (eVar 2) [2]) aNil)))
noncomputable def F__law_places : FM := fnM 3 false m__law_places
noncomputable def m__law_sublists_are : SM := (sSeq (sIf (bOr (bNot (bTru (eCall fIsi (aCons (eVar 0) (aCons (eC (.ty "tuple")) aNil))))) (bOp oNe (eCall (fList false) (aCons (eVar 0) aNil)) (eCall (fList false) (aCons (eVar 1) aNil)))) (sRet (eC (.bl false))) sNil)
  (sRet (eOp oEq (eCall fLen (aCons (eLc false (iAny (eVar 0)) (tgN 3) (bNot (bTru (eFn 2 F__law_lot_kind (aCons (eVar 3) (aCons (eVar 2) aNil))))) (eVar 3) [3]) aNil)) (eC (.int 0)))))
noncomputable def F__law_sublists_are : FM := fnM 4 false m__law_sublists_are
noncomputable def m__law_hitting : SM := (sSeq (sSet 2 (eLst true aNil))
  (sSeq (sFor (iAny (eFn 1 F__law_lots (aCons (eVar 1) aNil))) (tgN 3) (sSeq (sSet 4 (eLc false (iAny (eVar 0)) (tgN 5) (bOp oEq (eCall fLen (aCons (eFn 2 F__law_common (aCons (eVar 5) (aCons (eVar 3) aNil))) aNil)) (eC (.int 0))) (eVar 5) [5]))
  (sIf (bAnd (bOp oEq (eCall fLen (aCons (eVar 4) aNil)) (eC (.int 0))) (bOp oEq (eCall fLen (aCons (eLc false (iAny (eVar 2)) (tgN 6) (bTru (eFn 2 F__law_inside (aCons (eVar 6) (aCons (eVar 3) aNil)))) (eVar 6) [6]) aNil)) (eC (.int 0)))) (sExpr (eMt (eVar 2) (aCons (eVar 3) aNil) fAppend)) sNil)))
  (sRet (eVar 2))))
noncomputable def F__law_hitting : FM := fnM 7 false m__law_hitting
noncomputable def m__law_ordered : SM := (sRet (eLc false (iAny (eFn 1 F__law_lots (aCons (eVar 1) aNil))) (tgN 2) (bOp (oIn false) (eVar 2) (eVar 0)) (eVar 2) [2]))
noncomputable def F__law_ordered : FM := fnM 3 false m__law_ordered
noncomputable def m__law_is_so : SM := (sSeq (sSet 3 (eCall fLen (aCons (eVar 0) aNil)))
  (sSeq (sSet 4 (eLc false (iAny (eVar 0)) (tgN 14) bYes (eRev false (eCall (fList false) (aCons (eVar 14) aNil))) [14]))
  (sSeq (sSet 5 (eFn 3 F__law_carried (aCons (eVar 0) (aCons (eVar 1) (aCons (eVar 2) aNil)))))
  (sSeq (sSet 6 (eFn 2 F__law_rests (aCons (eVar 3) (aCons (eVar 5) aNil))))
  (sSeq (sSet 7 (eFn 1 F__law_kernels (aCons (eVar 5) aNil)))
  (sSeq (sSet 8 (eFn 3 F_rests (aCons (eVar 4) (aCons (eVar 1) (aCons (eRev false (eCall (fList false) (aCons (eVar 2) aNil))) aNil)))))
  (sSeq (sSet 9 (eFn 3 F_kernels (aCons (eVar 4) (aCons (eVar 1) (aCons (eVar 2) aNil)))))
  (sSeq (sIf (bOr (bNot (bTru (eFn 3 F__law_sublists_are (aCons (eVar 8) (aCons (eVar 6) (aCons (eVar 3) aNil)))))) (bNot (bTru (eFn 3 F__law_sublists_are (aCons (eVar 9) (aCons (eVar 7) (aCons (eVar 3) aNil))))))) (sRet (eC (.bl false))) sNil)
  (sSeq (sSet 10 (eFn 2 F_hitting (aCons (eCall (fList false) (aCons (eVar 9) aNil)) (aCons (eVar 3) aNil))))
  (sSeq (sIf (bNot (bTru (eFn 3 F__law_sublists_are (aCons (eVar 10) (aCons (eFn 2 F__law_hitting (aCons (eVar 7) (aCons (eVar 3) aNil))) (aCons (eVar 3) aNil)))))) (sRet (eC (.bl false))) sNil)
  (sSeq (sIf (bOp oNe (eFn 2 F__law_ordered (aCons (eLc false (iAny (eVar 10)) (tgN 13) bYes (eFn 2 F_left_out (aCons (eVar 13) (aCons (eVar 3) aNil))) [13]) (aCons (eVar 3) aNil))) (eCall (fList false) (aCons (eVar 8) aNil))) (sRet (eC (.bl false))) sNil)
  (sSeq (sSet 11 (eFn 2 F_hitting (aCons (eLc false (iAny (eVar 8)) (tgN 13) bYes (eFn 2 F_left_out (aCons (eVar 13) (aCons (eVar 3) aNil))) [13]) (aCons (eVar 3) aNil))))
  (sSeq (sIf (bNot (bTru (eFn 3 F__law_sublists_are (aCons (eVar 11) (aCons (eVar 7) (aCons (eVar 3) aNil)))))) (sRet (eC (.bl false))) sNil)
  (sSeq (sSet 12 (eLc false (iRg1 (aCons (eVar 3) aNil)) (tgN 15) (bOp oEq (eCall fLen (aCons (eLc false (iAny (eVar 6)) (tgN 14) (bOp (oIn true) (eVar 15) (eVar 14)) (eVar 14) [14]) aNil)) (eC (.int 0))) (eVar 15) [15]))
  (sSeq (sIf (bNot (bTru (eFn 3 F__law_sublists_are (aCons (eTup (aCons (eFn 3 F_in_every_rest (aCons (eVar 4) (aCons (eVar 1) (aCons (eVar 2) aNil)))) aNil)) (aCons (eLst false (aCons (eCall fTuple (aCons (eVar 12) aNil)) aNil)) (aCons (eVar 3) aNil)))))) (sRet (eC (.bl false))) sNil)
  (sSeq (sIf (bNot (bTru (eFn 3 F__law_sublists_are (aCons (eTup (aCons (eFn 3 F_in_no_kernel (aCons (eVar 4) (aCons (eVar 1) (aCons (eVar 2) aNil)))) aNil)) (aCons (eLst false (aCons (eCall fTuple (aCons (eVar 12) aNil)) aNil)) (aCons (eVar 3) aNil)))))) (sRet (eC (.bl false))) sNil)
  (sSeq (sFor (iAny (eFn 1 F__law_lots (aCons (eVar 3) aNil))) (tgN 13) (sSeq (sIf (bNot (bTru (eFn 2 F__law_same (aCons (eFn 4 F_is_rest (aCons (eVar 4) (aCons (eVar 1) (aCons (eVar 2) (aCons (eRev false (eVar 13)) aNil))))) (aCons (eOp (oIn false) (eVar 13) (eVar 6)) aNil))))) (sRet (eC (.bl false))) sNil)
  (sIf (bNot (bTru (eFn 2 F__law_same (aCons (eFn 4 F_carries (aCons (eVar 4) (aCons (eVar 1) (aCons (eVar 13) (aCons (eVar 2) aNil))))) (aCons (eOp (oIn false) (eVar 13) (eVar 5)) aNil))))) (sRet (eC (.bl false))) sNil)))
  (sRet (eOp oEq (eVar 4) (eLc false (iAny (eVar 0)) (tgN 14) bYes (eRev false (eCall (fList false) (aCons (eVar 14) aNil))) [14]))))))))))))))))))))
noncomputable def F__law_is_so : FM := fnM 16 false m__law_is_so
noncomputable def m__law_refused : SM := (sSeq (sSet 3 (eTup (aCons (eC (.str ("none" : Str))) (aCons (eC (.int 0)) aNil))))
  (sSeq (sTryAs (sExpr (eFn 3 F_sublist_of (aCons (eVar 0) (aCons (eVar 1) (aCons (eVar 2) aNil))))) (([4], 4, fun a fl => (sSet 3 (eTup (aCons (eC (.str ("base" : Str))) (aCons (eXf a fl 4 "place") aNil))))) :: (([5], 4, fun a fl => (sSet 3 (eTup (aCons (eC (.str ("many" : Str))) (aCons (eXf a fl 4 "limit") aNil))))) :: (([3], 4, fun a fl => (sSet 3 (eTup (aCons (eC (.str ("order" : Str))) (aCons (eXf a fl 4 "place") aNil))))) :: []))))
  (sRet (eVar 3))))
noncomputable def F__law_refused : FM := fnM 5 false m__law_refused
noncomputable def m__law_bases_so : SM := (sSeq (sSet 3 (eCall fLen (aCons (eVar 1) aNil)))
  (sSeq (sIf (bNot (bTru (eFn 3 F__law_sublists_are (aCons (eFn 2 F_base_of (aCons (eLc false (iAny (eVar 1)) (tgN 11) bYes (eRev false (eCall (fList false) (aCons (eVar 11) aNil))) [11]) (aCons (eVar 2) aNil))) (aCons (eVar 1) (aCons (eVar 2) aNil)))))) (sRet (eC (.bl false))) sNil)
  (sSeq (sSet 4 (eFn 2 F__law_lot (aCons (eVar 0) (aCons (eVar 3) aNil))))
  (sSeq (sIf (bNot (bTru (eFn 3 F__law_sublists_are (aCons (eTup (aCons (eFn 3 F_sublist_of (aCons (eVar 1) (aCons (eVar 2) (aCons (eRev false (eCall (fList false) (aCons (eVar 4) aNil))) aNil)))) aNil)) (aCons (eLst false (aCons (eVar 4) aNil)) (aCons (eVar 3) aNil)))))) (sRet (eC (.bl false))) sNil)
  (sSeq (sSet 5 (eFn 2 F__law_take (aCons (eVar 0) (aCons (eOp oAdd (eVar 3) (eC (.int 1))) aNil))))
  (sSeq (sSet 6 (eOp oIx (eLst false (aCons (eC (.int 3)) (aCons (eTup (aCons (eVar 2) aNil)) (aCons (eTup (aCons (eC (.int 0)) (aCons (eC (.int 0)) aNil))) (aCons (eTup (aCons (eC (.bl true)) aNil)) (aCons (eC (.str ("0" : Str))) (aCons (eC .non) aNil))))))) (eFn 2 F__law_take (aCons (eVar 0) (aCons (eC (.int 6)) aNil)))))
  (sSeq (sSet 7 (eLst false (aCons (eTup (aCons (eC .non) (aCons (eVar 4) (aCons (eC (.str ("base" : Str))) (aCons (eNeg (eC (.int 1))) aNil))))) (aCons (eTup (aCons (eC (.str ("ab" : Str))) (aCons (eC .non) (aCons (eC (.str ("base" : Str))) (aCons (eNeg (eC (.int 1))) aNil))))) (aCons (eTup (aCons (eOp oAdd (eOp oAdd (eSl false (eVar 1) pNo (pSo (eVar 5))) (eLst false (aCons (eVar 6) aNil))) (eSl false (eVar 1) (pSo (eVar 5)) pNo)) (aCons (eC .non) (aCons (eC (.str ("base" : Str))) (aCons (eVar 5) aNil))))) aNil)))))
  (sSeq (sSet 8 (eOp oAdd (eVar 1) (eLc false (iRg1 (aCons (eOp oSub (eC (.int 9)) (eVar 3)) aNil)) (tgN 10) bYes (eTup (aCons (eC (.int 0)) aNil)) [10])))
  (sSeq (sSet 7 (eOp oAdd (eVar 7) (eLst false (aCons (eTup (aCons (eVar 8) (aCons (eC .non) (aCons (eC (.str ("many" : Str))) (aCons (eC (.int 8)) aNil))))) (aCons (eTup (aCons (eOp oAdd (eVar 8) (eLst false (aCons (eVar 6) aNil))) (aCons (eC .non) (aCons (eC (.str ("base" : Str))) (aCons (eC (.int 9)) aNil))))) (aCons (eTup (aCons (eVar 1) (aCons (eC .non) (aCons (eC (.str ("order" : Str))) (aCons (eNeg (eC (.int 1))) aNil))))) aNil))))))
  (sSeq (sSet 7 (eOp oAdd (eVar 7) (eLst false (aCons (eTup (aCons (eVar 1) (aCons (eOp oAdd (eVar 4) (eTup (aCons (eVar 3) aNil))) (aCons (eC (.str ("order" : Str))) (aCons (eCall fLen (aCons (eVar 4) aNil)) aNil))))) aNil))))
  (sSeq (sSet 7 (eOp oAdd (eVar 7) (eLst false (aCons (eTup (aCons (eVar 1) (aCons (eOp oAdd (eVar 4) (eTup (aCons (eC (.bl true)) aNil))) (aCons (eC (.str ("order" : Str))) (aCons (eCall fLen (aCons (eVar 4) aNil)) aNil))))) aNil))))
  (sSeq (sFor (iAny (eVar 7)) (tgN 9) (sIf (bOp oNe (eFn 3 F__law_refused (aCons (eOp oIx (eVar 9) (eC (.int 0))) (aCons (eVar 2) (aCons (eOp oIx (eVar 9) (eC (.int 1))) aNil)))) (eTup (aCons (eOp oIx (eVar 9) (eC (.int 2))) (aCons (eOp oIx (eVar 9) (eC (.int 3))) aNil)))) (sRet (eC (.bl false))) sNil))
  (sSeq (sIf (bOp oNe (eFn 3 F__law_refused (aCons (eSl false (eVar 8) (pSo (eC (.int 1))) pNo) (aCons (eVar 2) (aCons (eTup aNil) aNil)))) (eTup (aCons (eC (.str ("none" : Str))) (aCons (eC (.int 0)) aNil)))) (sRet (eC (.bl false))) sNil)
  (sRet (eOr (eOp oEq (eCall fLen (aCons (eVar 4) aNil)) (eC (.int 0))) (eOp oEq (eFn 3 F__law_refused (aCons (eVar 1) (aCons (eVar 2) (aCons (eOp oAdd (eVar 4) (eSl false (eVar 4) pNo (pSo (eC (.int 1))))) aNil)))) (eTup (aCons (eC (.str ("order" : Str))) (aCons (eCall fLen (aCons (eVar 4) aNil)) aNil)))))))))))))))))))
noncomputable def F__law_bases_so : FM := fnM 12 false m__law_bases_so
noncomputable def m__law_whole_refused : SM := (sSeq (sSet 3 (eTupRg (mRg1 (eVar 2))))
  (sSeq (sSet 4 (eC (.int 0)))
  (sSeq (sTryAs (sIf (bOp oEq (eVar 0) (eC (.int 0))) (sExpr (eFn 3 F_rests (aCons (eVar 1) (aCons (eVar 2) (aCons (eVar 3) aNil))))) (sIf (bOp oEq (eVar 0) (eC (.int 1))) (sExpr (eFn 3 F_kernels (aCons (eVar 1) (aCons (eVar 2) (aCons (eVar 3) aNil))))) (sIf (bOp oEq (eVar 0) (eC (.int 2))) (sExpr (eFn 3 F_in_every_rest (aCons (eVar 1) (aCons (eVar 2) (aCons (eVar 3) aNil))))) (sIf (bOp oEq (eVar 0) (eC (.int 3))) (sExpr (eFn 3 F_in_no_kernel (aCons (eVar 1) (aCons (eVar 2) (aCons (eVar 3) aNil))))) (sExpr (eFn 4 F_is_rest (aCons (eVar 1) (aCons (eVar 2) (aCons (eVar 3) (aCons (eC .non) aNil)))))))))) (([2], 5, fun a fl => (sSet 4 (eXf a fl 5 "place"))) :: []))
  (sRet (eOp oEq (eVar 4) (eNeg (eC (.int 1))))))))
noncomputable def F__law_whole_refused : FM := fnM 6 false m__law_whole_refused
noncomputable def m__law_list_door : SM := (sSeq (sSet 1 (eTup (aCons (eC (.str ("none" : Str))) (aCons (eC (.int 0)) aNil))))
  (sSeq (sTryAs (sIf (bOp oEq (eVar 0) (eC (.int 0))) (sExpr (eFn 2 F_hitting (aCons (eC .non) (aCons (eC (.int 9)) aNil)))) (sIf (bOp oEq (eVar 0) (eC (.int 1))) (sExpr (eFn 2 F_left_out (aCons (eC .non) (aCons (eC (.int 9)) aNil)))) (sIf (bOp oEq (eVar 0) (eC (.int 2))) (sExpr (eFn 1 F_all_sublists (aCons (eC (.int 9)) aNil))) (sIf (bOp oEq (eVar 0) (eC (.int 3))) (sExpr (eFn 2 F_hitting (aCons (eC .non) (aCons (eC (.int 2)) aNil)))) (sIf (bOp oEq (eVar 0) (eC (.int 4))) (sExpr (eFn 2 F_hitting (aCons (eLst false (aCons (eTup (aCons (eC (.int 1)) (aCons (eC (.int 0)) aNil))) (aCons (eTup (aCons (eC (.int 2)) aNil)) aNil))) (aCons (eC (.int 2)) aNil)))) (sIf (bOp oEq (eVar 0) (eC (.int 5))) (sExpr (eFn 2 F_left_out (aCons (eC .non) (aCons (eC (.int 2)) aNil)))) (sExpr (eFn 2 F_left_out (aCons (eTup (aCons (eC (.int 0)) (aCons (eC (.int 2)) aNil))) (aCons (eC (.int 2)) aNil)))))))))) (([1], 2, fun a fl => (sSet 1 (eTup (aCons (eC (.str ("number" : Str))) (aCons (eXf a fl 2 "name") aNil))))) :: (([3], 2, fun a fl => (sSet 1 (eTup (aCons (eC (.str ("order" : Str))) (aCons (eXf a fl 2 "place") aNil))))) :: [])))
  (sRet (eVar 1))))
noncomputable def F__law_list_door : FM := fnM 3 false m__law_list_door
noncomputable def m__law_doors_so : SM := (sSeq (sFor (iRg1 (aCons (eC (.int 5)) aNil)) (tgN 2) (sIf (bNot (bTru (eFn 3 F__law_whole_refused (aCons (eVar 2) (aCons (eVar 0) (aCons (eVar 1) aNil)))))) (sRet (eC (.bl false))) sNil))
  (sSeq (sSet 3 (eLc false (iRg1 (aCons (eC (.int 7)) aNil)) (tgN 2) bYes (eFn 1 F__law_list_door (aCons (eVar 2) aNil)) [2]))
  (sSeq (sSet 4 (eTup (aCons (eC (.str ("number" : Str))) (aCons (eC (.str ("many" : Str))) aNil))))
  (sSeq (sIf (bOp oNe (eVar 3) (eLst false (aCons (eVar 4) (aCons (eVar 4) (aCons (eVar 4) (aCons (eTup (aCons (eC (.str ("order" : Str))) (aCons (eNeg (eC (.int 1))) aNil))) (aCons (eTup (aCons (eC (.str ("order" : Str))) (aCons (eC (.int 1)) aNil))) (aCons (eTup (aCons (eC (.str ("order" : Str))) (aCons (eNeg (eC (.int 1))) aNil))) (aCons (eTup (aCons (eC (.str ("order" : Str))) (aCons (eC (.int 1)) aNil))) aNil))))))))) (sRet (eC (.bl false))) sNil)
  (sRet (eAnd (eOp oEq (eFn 2 F_left_out (aCons (eTup (aCons (eC (.int 1)) (aCons (eC (.int 0)) aNil))) (aCons (eC (.int 2)) aNil))) (eTup aNil)) (eAnd (eOp oEq (eFn 2 F_hitting (aCons (eLst false aNil) (aCons (eC (.int 0)) aNil))) (eTup (aCons (eTup aNil) aNil))) (eOp oEq (eFn 2 F_hitting (aCons (eLst false (aCons (eTup aNil) aNil)) (aCons (eC (.int 1)) aNil))) (eTup aNil)))))))))
noncomputable def F__law_doors_so : FM := fnM 5 false m__law_doors_so
noncomputable def m__law_eight_so : SM := (sSeq (sSet 3 (eCall fLen (aCons (eVar 0) aNil)))
  (sSeq (sSet 4 (eOp oAdd (eVar 0) (eLc false (iRg1 (aCons (eOp oSub (eC (.int 8)) (eVar 3)) aNil)) (tgN 8) bYes (eTupRg (mRg1 (eVar 1))) [8])))
  (sSeq (sSet 5 (eFn 3 F__law_carried (aCons (eVar 0) (aCons (eVar 1) (aCons (eVar 2) aNil)))))
  (sSeq (sSet 6 (eLc false (iAny (eFn 2 F__law_rests (aCons (eVar 3) (aCons (eVar 5) aNil)))) (tgN 7) bYes (eOp oAdd (eVar 7) (eTupRg (mRg2 (eVar 3) (eC (.int 8))))) [7]))
  (sSeq (sIf (bNot (bTru (eFn 3 F__law_sublists_are (aCons (eFn 3 F_rests (aCons (eVar 4) (aCons (eVar 1) (aCons (eVar 2) aNil)))) (aCons (eVar 6) (aCons (eC (.int 8)) aNil)))))) (sRet (eC (.bl false))) sNil)
  (sRet (eFn 3 F__law_sublists_are (aCons (eFn 3 F_kernels (aCons (eVar 4) (aCons (eVar 1) (aCons (eVar 2) aNil)))) (aCons (eFn 1 F__law_kernels (aCons (eVar 5) aNil)) (aCons (eC (.int 8)) aNil))))))))))
noncomputable def F__law_eight_so : FM := fnM 9 false m__law_eight_so
noncomputable def m_law : SM := (sSeq (sSet 1 (eFn 1 F__law_draws (aCons (eVar 0) aNil)))
  (sSeq (sSet 2 (eOp oAdd (eC (.int 1)) (eFn 2 F__law_take (aCons (eVar 1) (aCons (eC (.int 5)) aNil)))))
  (sSeq (sSet 3 (eFn 4 F__law_base (aCons (eVar 1) (aCons (eVar 2) (aCons (eFn 2 F__law_take (aCons (eVar 1) (aCons (eC (.int 6)) aNil))) (aCons (eC (.int 0)) aNil))))))
  (sSeq (sSet 4 (eFn 2 F__law_short (aCons (eVar 1) (aCons (eVar 2) aNil))))
  (sSeq (sSet 5 (eFn 2 F__law_short (aCons (eVar 1) (aCons (eVar 2) aNil))))
  (sSeq (sIf (bNot (bTru (eFn 3 F__law_bases_so (aCons (eVar 1) (aCons (eVar 3) (aCons (eVar 2) aNil)))))) (sRet (eC (.bl false))) sNil)
  (sSeq (sIf (bOr (bNot (bTru (eFn 3 F__law_is_so (aCons (eVar 3) (aCons (eVar 2) (aCons (eVar 4) aNil)))))) (bNot (bTru (eFn 3 F__law_is_so (aCons (eVar 3) (aCons (eVar 2) (aCons (eVar 5) aNil))))))) (sRet (eC (.bl false))) sNil)
  (sSeq (sIf (bNot (bTru (eFn 3 F__law_sublists_are (aCons (eFn 1 F_all_sublists (aCons (eCall fLen (aCons (eVar 3) aNil)) aNil)) (aCons (eFn 1 F__law_lots (aCons (eCall fLen (aCons (eVar 3) aNil)) aNil)) (aCons (eCall fLen (aCons (eVar 3) aNil)) aNil)))))) (sRet (eC (.bl false))) sNil)
  (sSeq (sFor (iAny (eFn 1 F__law_lots (aCons (eCall fLen (aCons (eVar 3) aNil)) aNil))) (tgN 6) (sSeq (sSet 8 (eFn 3 F_says (aCons (eCall fTuple (aCons (eVar 3) aNil)) (aCons (eVar 2) (aCons (eRev false (eCall (fList false) (aCons (eVar 6) aNil))) aNil)))))
  (sIf (bOr (bNot (bTru (eFn 2 F__law_lot_kind (aCons (eVar 8) (aCons (eVar 2) aNil))))) (bOp oNe (eVar 8) (eFn 3 F__law_says (aCons (eVar 3) (aCons (eVar 2) (aCons (eVar 6) aNil)))))) (sRet (eC (.bl false))) sNil)))
  (sSeq (sSet 7 (eOp oEq (eFn 3 F__law_carried (aCons (eVar 3) (aCons (eVar 2) (aCons (eVar 4) aNil)))) (eFn 3 F__law_carried (aCons (eVar 3) (aCons (eVar 2) (aCons (eVar 5) aNil))))))
  (sSeq (sIf (bOp oNe (eOp oEq (eFn 3 F_rests (aCons (eVar 3) (aCons (eVar 2) (aCons (eVar 4) aNil)))) (eFn 3 F_rests (aCons (eVar 3) (aCons (eVar 2) (aCons (eVar 5) aNil))))) (eVar 7)) (sRet (eC (.bl false))) sNil)
  (sSeq (sIf (bOp oNe (eOp oEq (eFn 3 F_kernels (aCons (eVar 3) (aCons (eVar 2) (aCons (eVar 4) aNil)))) (eFn 3 F_kernels (aCons (eVar 3) (aCons (eVar 2) (aCons (eVar 5) aNil))))) (eVar 7)) (sRet (eC (.bl false))) sNil)
  (sSeq (sIf (bAnd (bOp oEq (eFn 2 F__law_take (aCons (eVar 1) (aCons (eC (.int 4)) aNil))) (eC (.int 0))) (bNot (bTru (eFn 3 F__law_eight_so (aCons (eVar 3) (aCons (eVar 2) (aCons (eVar 4) aNil))))))) (sRet (eC (.bl false))) sNil)
  (sRet (eFn 2 F__law_doors_so (aCons (eVar 3) (aCons (eVar 2) aNil)))))))))))))))))
noncomputable def F_law : FM := fnM 9 false m_law
def dfOf (x : Str) (i : Nat) (kwd : List (Str × He.Dv)) : He.DefD := ⟨(x, none), x, x, defArgs (top i), defBody (top i), defScope (top i), [], kwd⟩
def dmOf (c : Str) (q : Str) (i : Nat) : He.DefD := ⟨(c, some "__init__"), "__init__", q, defArgs (meth i), defBody (meth i), defScope (meth i), [], []⟩
abbrev fnl : List He.DefD := ([dfOf "whole_number" 8 [], dfOf "is_row" 9 [], dfOf "check_worlds" 10 [], dfOf "is_world" 11 [], dfOf "first_stranger" 12 [], dfOf "lot_of" 13 [("empty", .bl true)], dfOf "every" 14 [], dfOf "inside" 15 [], dfOf "meets" 16 [], dfOf "lot_list" 17 [], dfOf "base_lots" 19 [], dfOf "base_of" 20 [], dfOf "places_of" 21 [], dfOf "sublist_of" 22 [], dfOf "says" 23 [], dfOf "carries" 24 [], dfOf "check_places_many" 25 [], dfOf "all_sublists" 26 [], dfOf "but_not_all" 27 [], dfOf "mask_of" 29 [], dfOf "said_masks" 30 [], dfOf "carrying" 31 [], dfOf "rests" 32 [], dfOf "kernels" 33 [], dfOf "hitting" 34 [], dfOf "left_out" 35 [], dfOf "in_every_rest" 36 [], dfOf "in_no_kernel" 37 [], dfOf "is_rest" 38 [], dfOf "_law_draws" 40 []] : List He.DefD) ++ ([dfOf "_law_take" 41 [], dfOf "_law_int" 42 [], dfOf "_law_lot_kind" 43 [], dfOf "_law_lots" 44 [], dfOf "_law_lot" 45 [], dfOf "_law_some" 46 [], dfOf "_law_short" 47 [], dfOf "_law_common" 48 [], dfOf "_law_plus" 49 [], dfOf "_law_inside" 50 [], dfOf "_law_same" 51 [], dfOf "_law_base" 52 [], dfOf "_law_says" 53 [], dfOf "_law_carried" 54 [], dfOf "_law_rests" 55 [], dfOf "_law_kernels" 56 [], dfOf "_law_places" 57 [], dfOf "_law_sublists_are" 58 [], dfOf "_law_hitting" 59 [], dfOf "_law_ordered" 60 [], dfOf "_law_is_so" 61 [], dfOf "_law_refused" 62 [], dfOf "_law_bases_so" 63 [], dfOf "_law_whole_refused" 64 [], dfOf "_law_list_door" 65 [], dfOf "_law_doors_so" 66 [], dfOf "_law_eight_so" 67 [], dfOf "law" 68 [], dmOf "BadNumber" "BadNumber.__init__" 2, dmOf "BadLot" "BadLot.__init__" 3] : List He.DefD) ++ ([dmOf "BadOrder" "BadOrder.__init__" 4, dmOf "BadBase" "BadBase.__init__" 5, dmOf "TooMany" "TooMany.__init__" 6] : List He.DefD)
abbrev globs : List Str := (["NewsError", "BadNumber", "BadLot", "BadOrder", "BadBase", "TooMany", "whole_number", "is_row", "check_worlds", "is_world", "first_stranger", "lot_of", "every", "inside", "meets", "lot_list", "base_lots", "base_of", "places_of", "sublist_of", "says", "carries", "check_places_many", "all_sublists", "but_not_all", "mask_of", "said_masks", "carrying", "rests", "kernels"] : List Str) ++ (["hitting", "left_out", "in_every_rest", "in_no_kernel", "is_rest", "_law_draws", "_law_take", "_law_int", "_law_lot_kind", "_law_lots", "_law_lot", "_law_some", "_law_short", "_law_common", "_law_plus", "_law_inside", "_law_same", "_law_base", "_law_says", "_law_carried", "_law_rests", "_law_kernels", "_law_places", "_law_sublists_are", "_law_hitting", "_law_ordered", "_law_is_so", "_law_refused", "_law_bases_so", "_law_whole_refused"] : List Str) ++ (["_law_list_door", "_law_doors_so", "_law_eight_so", "law"] : List Str)
abbrev frees : List Str := (["isinstance", "len", "sum", "all", "any", "min", "sorted", "int", "bool", "list", "tuple", "range", "enumerate"] : List Str)
abbrev preds : List Pd := ([excB "BadNumber" "name", excB "BadLot" "place", excB "BadBase" "place", catB clsN "BadLot" [2], excB "TooMany" "limit", excB "BadOrder" "place", catB clsN "BadOrder" [3], allB clsN (fun x => xfP x "place"), allB clsN (fun x => xfP x "limit"), catB clsN "TooMany" [5], catB clsN "BadBase" [4], allB clsN (fun x => xfP x "name"), catB clsN "BadNumber" [1]] : List Pd)
end Law
end
section
set_option Elab.async false
set_option linter.all false
set_option maxRecDepth 100000
set_option maxHeartbeats 0
namespace Law
open PySem PySem.Spec PyProof.Rows L2 Nb
abbrev Rw : PySem.W.OpenRow := PySem.W.OpenLaw.row PySem.Challenge.rw_newsbooks_k95_rests_and_kernels
abbrev fal : List He.Fa := globs.map He.Fa.glo ++ frees.map He.Fa.free
abbrev hk : PySem.W.Hook := hookN 5 preds fal fnl
def ob (s : PySem.W.SharedT) : AlN := obsNG 5 preds fal fnl (HandSHeadRun.getT s)
theorem ob_eq (s : PySem.W.SharedT) : ob s = hk.obs s.abs := obsNG_eq (HandSHeadRun.getT_eq s)
abbrev loose : List Str := ("__name__" : Str) :: globs.filter (fun x => x != "law")
theorem run (w : World) : HandSHeadRun.RunEq Rw (PySem.W.view Rw.prog [68]) hk ob 6000 loose w := by
  intro os
  kernel_rfl
end Law
end
section
set_option Elab.async false
set_option linter.all false
set_option maxRecDepth 100000
set_option maxHeartbeats 0
namespace Law
open PySem PySem.Spec PyProof.Rows L2 Nb
section
variable {P : Program} {w : World} {K : PySem.W.Frag} {mg : Str → Option Value} {base : Heap}
theorem isc_BadNumber : FnScope ["self", "name"] ["self", "name"] (defScope (meth 2)) := ⟨rfl, rfl, rfl, by decide +kernel, rfl, by decide +kernel, by decide +kernel⟩
theorem init_BadNumber (Fx : FX preds globs frees fnl K mg) : FnOk P w K mg base CX0 1 (He.ma K (He.ga K "BadNumber") "__init__") (fdOf K ("BadNumber", some "__init__")) ["self", "name"] (spInit (He.ga K "BadNumber") "name") := init_ok (Fx.d 58 rfl) isc_BadNumber (excB_ok (Fx.p 0 rfl)).oex (excB_ok (Fx.p 0 rfl)).hno (.inl rfl) (.inl rfl) (by decide) (by decide) (fun _ => rfl)
theorem initH_BadNumber (Fx : FX preds globs frees fnl K mg) : L2H.FnH P w K mg base CX0 1 (He.ma K (He.ga K "BadNumber") "__init__") (fdOf K ("BadNumber", some "__init__")) ["self", "name"] (spInit (He.ga K "BadNumber") "name") := init_okH (Fx.d 58 rfl) isc_BadNumber (excB_ok (Fx.p 0 rfl)).oex (excB_ok (Fx.p 0 rfl)).hno (.inl rfl) (.inl rfl) (by decide) (by decide) (fun _ => rfl)
theorem bI_BadNumber (Fx : FX preds globs frees fnl K mg) : Binds K (fdOf K ("BadNumber", some "__init__")) ["self", "name"] [] := (Fx.d 58 rfl).bindsN fun _ _ _ _ _ _ us hl => match us, hl with | [_, _], _ => rfl
theorem isc_BadLot : FnScope ["self", "place"] ["self", "place"] (defScope (meth 3)) := ⟨rfl, rfl, rfl, by decide +kernel, rfl, by decide +kernel, by decide +kernel⟩
theorem init_BadLot (Fx : FX preds globs frees fnl K mg) : FnOk P w K mg base CX0 1 (He.ma K (He.ga K "BadLot") "__init__") (fdOf K ("BadLot", some "__init__")) ["self", "place"] (spInit (He.ga K "BadLot") "place") := init_ok (Fx.d 59 rfl) isc_BadLot (excB_ok (Fx.p 1 rfl)).oex (excB_ok (Fx.p 1 rfl)).hno (.inl rfl) (.inl rfl) (by decide) (by decide) (fun _ => rfl)
theorem initH_BadLot (Fx : FX preds globs frees fnl K mg) : L2H.FnH P w K mg base CX0 1 (He.ma K (He.ga K "BadLot") "__init__") (fdOf K ("BadLot", some "__init__")) ["self", "place"] (spInit (He.ga K "BadLot") "place") := init_okH (Fx.d 59 rfl) isc_BadLot (excB_ok (Fx.p 1 rfl)).oex (excB_ok (Fx.p 1 rfl)).hno (.inl rfl) (.inl rfl) (by decide) (by decide) (fun _ => rfl)
theorem bI_BadLot (Fx : FX preds globs frees fnl K mg) : Binds K (fdOf K ("BadLot", some "__init__")) ["self", "place"] [] := (Fx.d 59 rfl).bindsN fun _ _ _ _ _ _ us hl => match us, hl with | [_, _], _ => rfl
theorem isc_BadOrder : FnScope ["self", "place"] ["self", "place"] (defScope (meth 4)) := ⟨rfl, rfl, rfl, by decide +kernel, rfl, by decide +kernel, by decide +kernel⟩
theorem init_BadOrder (Fx : FX preds globs frees fnl K mg) : FnOk P w K mg base CX0 1 (He.ma K (He.ga K "BadOrder") "__init__") (fdOf K ("BadOrder", some "__init__")) ["self", "place"] (spInit (He.ga K "BadOrder") "place") := init_ok (Fx.d 60 rfl) isc_BadOrder (excB_ok (Fx.p 5 rfl)).oex (excB_ok (Fx.p 5 rfl)).hno (.inl rfl) (.inl rfl) (by decide) (by decide) (fun _ => rfl)
theorem initH_BadOrder (Fx : FX preds globs frees fnl K mg) : L2H.FnH P w K mg base CX0 1 (He.ma K (He.ga K "BadOrder") "__init__") (fdOf K ("BadOrder", some "__init__")) ["self", "place"] (spInit (He.ga K "BadOrder") "place") := init_okH (Fx.d 60 rfl) isc_BadOrder (excB_ok (Fx.p 5 rfl)).oex (excB_ok (Fx.p 5 rfl)).hno (.inl rfl) (.inl rfl) (by decide) (by decide) (fun _ => rfl)
theorem bI_BadOrder (Fx : FX preds globs frees fnl K mg) : Binds K (fdOf K ("BadOrder", some "__init__")) ["self", "place"] [] := (Fx.d 60 rfl).bindsN fun _ _ _ _ _ _ us hl => match us, hl with | [_, _], _ => rfl
theorem isc_BadBase : FnScope ["self", "place"] ["self", "place"] (defScope (meth 5)) := ⟨rfl, rfl, rfl, by decide +kernel, rfl, by decide +kernel, by decide +kernel⟩
theorem init_BadBase (Fx : FX preds globs frees fnl K mg) : FnOk P w K mg base CX0 1 (He.ma K (He.ga K "BadBase") "__init__") (fdOf K ("BadBase", some "__init__")) ["self", "place"] (spInit (He.ga K "BadBase") "place") := init_ok (Fx.d 61 rfl) isc_BadBase (excB_ok (Fx.p 2 rfl)).oex (excB_ok (Fx.p 2 rfl)).hno (.inl rfl) (.inl rfl) (by decide) (by decide) (fun _ => rfl)
theorem initH_BadBase (Fx : FX preds globs frees fnl K mg) : L2H.FnH P w K mg base CX0 1 (He.ma K (He.ga K "BadBase") "__init__") (fdOf K ("BadBase", some "__init__")) ["self", "place"] (spInit (He.ga K "BadBase") "place") := init_okH (Fx.d 61 rfl) isc_BadBase (excB_ok (Fx.p 2 rfl)).oex (excB_ok (Fx.p 2 rfl)).hno (.inl rfl) (.inl rfl) (by decide) (by decide) (fun _ => rfl)
theorem bI_BadBase (Fx : FX preds globs frees fnl K mg) : Binds K (fdOf K ("BadBase", some "__init__")) ["self", "place"] [] := (Fx.d 61 rfl).bindsN fun _ _ _ _ _ _ us hl => match us, hl with | [_, _], _ => rfl
theorem isc_TooMany : FnScope ["self", "limit"] ["self", "limit"] (defScope (meth 6)) := ⟨rfl, rfl, rfl, by decide +kernel, rfl, by decide +kernel, by decide +kernel⟩
theorem init_TooMany (Fx : FX preds globs frees fnl K mg) : FnOk P w K mg base CX0 1 (He.ma K (He.ga K "TooMany") "__init__") (fdOf K ("TooMany", some "__init__")) ["self", "limit"] (spInit (He.ga K "TooMany") "limit") := init_ok (Fx.d 62 rfl) isc_TooMany (excB_ok (Fx.p 4 rfl)).oex (excB_ok (Fx.p 4 rfl)).hno (.inl rfl) (.inl rfl) (by decide) (by decide) (fun _ => rfl)
theorem initH_TooMany (Fx : FX preds globs frees fnl K mg) : L2H.FnH P w K mg base CX0 1 (He.ma K (He.ga K "TooMany") "__init__") (fdOf K ("TooMany", some "__init__")) ["self", "limit"] (spInit (He.ga K "TooMany") "limit") := init_okH (Fx.d 62 rfl) isc_TooMany (excB_ok (Fx.p 4 rfl)).oex (excB_ok (Fx.p 4 rfl)).hno (.inl rfl) (.inl rfl) (by decide) (by decide) (fun _ => rfl)
theorem bI_TooMany (Fx : FX preds globs frees fnl K mg) : Binds K (fdOf K ("TooMany", some "__init__")) ["self", "limit"] [] := (Fx.d 62 rfl).bindsN fun _ _ _ _ _ _ us hl => match us, hl with | [_, _], _ => rfl
theorem sc_whole_number : FnScope ["value"] ["value"] (defScope (top 8)) := ⟨rfl, rfl, rfl, by decide +kernel, rfl, by decide +kernel, by decide +kernel⟩
theorem ok_whole_number (Fx : FX preds globs frees fnl K mg) : FnOk P w K mg base (L2N.CX P w) 1 (He.ga K "whole_number") (fdOf K ("whole_number", none)) ["value"] (spF K (clK clsN K) 1 F_whole_number) :=
  fn_cold false (Fx.d 0 rfl) sc_whole_number fun H0 mu0 W cdv A outer s H E hr tk =>
    (ds_one (ds_ret (de_and (de_callB call_isi sim_isi bo_isinstance (by decide) (by decide) rfl (Fx.fr 0 rfl) (da_cons (de_name (pe_var (i := 0) rfl (.inl rfl))) (da_cons (de_ty rfl (Fx.fr 7 rfl) bo_int (by decide) (by decide)) da_nil rfl) rfl) rfl rfl) (de_one (de_not (de_callB call_isi sim_isi bo_isinstance (by decide) (by decide) rfl (Fx.fr 0 rfl) (da_cons (de_name (pe_var (i := 0) rfl (.inl rfl))) (da_cons (de_ty rfl (Fx.fr 8 rfl) bo_bool (by decide) (by decide)) da_nil rfl) rfl) rfl rfl))))))
theorem b_whole_number (Fx : FX preds globs frees fnl K mg) : Binds K (fdOf K ("whole_number", none)) ["value"] [] := (Fx.d 0 rfl).bindsN fun _ _ _ _ _ _ us hl => match us, hl with | [_], _ => rfl
theorem sc_is_row : FnScope ["value"] ["value"] (defScope (top 9)) := ⟨rfl, rfl, rfl, by decide +kernel, rfl, by decide +kernel, by decide +kernel⟩
theorem ok_is_row (Fx : FX preds globs frees fnl K mg) : FnOk P w K mg base (L2N.CX P w) 1 (He.ga K "is_row") (fdOf K ("is_row", none)) ["value"] (spF K (clK clsN K) 1 F_is_row) :=
  fn_cold false (Fx.d 1 rfl) sc_is_row fun H0 mu0 W cdv A outer s H E hr tk =>
    (ds_one (ds_ret (de_isiT (ns := ["list", "tuple"]) rfl rfl (Fx.fr 0 rfl) (de_name (pe_var (i := 0) rfl (.inl rfl))) (pa_cons (pe_bltn rfl (Fx.fr 9 rfl) bo_list (show RelV (.ty "list") (.type "list") from rfl) (by decide) (by decide)) (pa_cons (pe_bltn rfl (Fx.fr 10 rfl) bo_tuple (show RelV (.ty "tuple") (.type "tuple") from rfl) (by decide) (by decide)) pa_nil rfl) rfl) (by decide) rfl rfl rfl)))
theorem b_is_row (Fx : FX preds globs frees fnl K mg) : Binds K (fdOf K ("is_row", none)) ["value"] [] := (Fx.d 1 rfl).bindsN fun _ _ _ _ _ _ us hl => match us, hl with | [_], _ => rfl
theorem sc_check_worlds : FnScope ["worlds"] ["worlds"] (defScope (top 10)) := ⟨rfl, rfl, rfl, by decide +kernel, rfl, by decide +kernel, by decide +kernel⟩
theorem ok_check_worlds (Fx : FX preds globs frees fnl K mg) : FnOk P w K mg base (L2N.CX P w) 3 (He.ga K "check_worlds") (fdOf K ("check_worlds", none)) ["worlds"] (spF K (clK clsN K) 1 F_check_worlds) :=
  fn_cold false (Fx.d 2 rfl) sc_check_worlds fun H0 mu0 W cdv A outer s H E hr tk =>
    (ds_one (ds_if (dt_bool (dw_or (dt_not (dt_tru rfl (de_call rfl (ok_whole_number Fx) (hr.mono (by decide)) rfl (Fx.g 6 rfl) (Fx.d 0 rfl).kp (b_whole_number Fx) (fun σ => L2N.passAt tk σ) (da_cons (de_name (pe_var (i := 0) rfl (.inl rfl))) da_nil rfl) (by decide) rfl rfl) (fun _ => rfl))) (dw_or (dt_cmp op_lt (sim_I0 fun _ _ _ _ => .bl _) (de_name (pe_var (i := 0) rfl (.inl rfl))) de_int (nomark _)) (dw_or1 (dt_cmp op_gt (sim_I0 fun _ _ _ _ => .bl _) (de_name (pe_var (i := 0) rfl (.inl rfl))) de_int (nomark _)))))) (ds_one (ds_raise (show clK clsN K 1 (He.ga K "BadNumber") from ⟨_, rfl, rfl⟩) rfl tk (pmk5_oexE (excB_ok (Fx.p 0 rfl)).oex (excB_ok (Fx.p 0 rfl)).ini (excB_ok (Fx.p 0 rfl)).tI (init_BadNumber Fx) (hr.mono (by decide)) (bI_BadNumber Fx) pass0 rfl (Fx.g 1 rfl) de_str (by decide) rfl))) ds_nil))
theorem b_check_worlds (Fx : FX preds globs frees fnl K mg) : Binds K (fdOf K ("check_worlds", none)) ["worlds"] [] := (Fx.d 2 rfl).bindsN fun _ _ _ _ _ _ us hl => match us, hl with | [_], _ => rfl
theorem sc_is_world : FnScope ["value", "worlds"] ["value", "worlds"] (defScope (top 11)) := ⟨rfl, rfl, rfl, by decide +kernel, rfl, by decide +kernel, by decide +kernel⟩
theorem ok_is_world (Fx : FX preds globs frees fnl K mg) : FnOk P w K mg base (L2N.CX P w) 2 (He.ga K "is_world") (fdOf K ("is_world", none)) ["value", "worlds"] (spF K (clK clsN K) 2 F_is_world) :=
  fn_cold false (Fx.d 3 rfl) sc_is_world fun H0 mu0 W cdv A outer s H E hr tk =>
    (ds_one (ds_ret (de_and (de_call rfl (ok_whole_number Fx) (hr.mono (by decide)) rfl (Fx.g 6 rfl) (Fx.d 0 rfl).kp (b_whole_number Fx) (fun σ => L2N.passAt tk σ) (da_cons (de_name (pe_var (i := 0) rfl (.inl rfl))) da_nil rfl) (by decide) rfl rfl) (de_one (de_chain op_le (sim_I0 fun _ _ _ _ => .bl _) op_lt (sim_I0 fun _ _ _ _ => .bl _) de_int (de_name (pe_var (i := 0) rfl (.inl rfl))) (de_name (pe_var (i := 1) rfl (.inl rfl))) rfl)))))
theorem b_is_world (Fx : FX preds globs frees fnl K mg) : Binds K (fdOf K ("is_world", none)) ["value", "worlds"] [] := (Fx.d 3 rfl).bindsN fun _ _ _ _ _ _ us hl => match us, hl with | [_, _], _ => rfl
theorem sc_first_stranger : FnScope ["row", "worlds", "seen", "place", "value"] ["row", "worlds"] (defScope (top 12)) := ⟨rfl, rfl, rfl, by decide +kernel, rfl, by decide +kernel, by decide +kernel⟩
theorem ok_first_stranger (Fx : FX preds globs frees fnl K mg) : FnOk P w K mg base (L2N.CX P w) 3 (He.ga K "first_stranger") (fdOf K ("first_stranger", none)) ["row", "worlds"] (spF K (clK clsN K) 2 F_first_stranger) :=
  fn_cold false (Fx.d 4 rfl) sc_first_stranger fun H0 mu0 W cdv A outer s H E hr tk =>
    (ds_cons (ds_setV (i := 2) sc_first_stranger.nd rfl (.inl rfl) (de_lst true da_nil) rfl rfl)
    (ds_cons (ds_for (L2.passes_of rfl) rfl (di_enum rfl rfl (Fx.fr 12 rfl) (da_cons (de_name (pe_var (i := 0) rfl (.inl rfl))) da_nil rfl) rfl) (pg_tup rfl (pgs_cons (pg_name (i := 3) sc_first_stranger.nd rfl (.inl rfl) (.inl rfl)) (pgs_cons (pg_name (i := 4) sc_first_stranger.nd rfl (.inl rfl) (.inl rfl)) pgs_nil rfl) rfl) rfl rfl) simG_tup (ds_cons (ds_if (dt_bool (dw_or (dt_not (dt_tru rfl (de_call rfl (ok_is_world Fx) (hr.mono (by decide)) rfl (Fx.g 9 rfl) (Fx.d 3 rfl).kp (b_is_world Fx) (fun σ => L2N.passAt tk σ) (da_cons (de_name (pe_var (i := 4) rfl (.inl rfl))) (da_cons (de_name (pe_var (i := 1) rfl (.inl rfl))) da_nil rfl) rfl) (by decide) rfl rfl) (fun _ => rfl))) (dw_or1 (dt_cmp (op_inT (hu65 hr)) sim_in (de_name (pe_var (i := 4) rfl (.inl rfl))) (de_name (pe_var (i := 2) rfl (.inl rfl))) rfl)))) (ds_one (ds_ret (de_name (pe_var (i := 3) rfl (.inl rfl))))) ds_nil)
    (ds_one (ds_expr (de_mt rfl (PySem.F.slot_list_append) PySem.F.type_list_append mt_append sim_append (de_name (pe_var (i := 2) rfl (.inl rfl))) (da_cons (de_name (pe_var (i := 4) rfl (.inl rfl))) da_nil rfl) rfl rfl rfl rfl rfl) rfl))) (fun _ => rfl))
    (ds_one (ds_ret de_non))))
theorem b_first_stranger (Fx : FX preds globs frees fnl K mg) : Binds K (fdOf K ("first_stranger", none)) ["row", "worlds"] [] := (Fx.d 4 rfl).bindsN fun _ _ _ _ _ _ us hl => match us, hl with | [_, _], _ => rfl
theorem sc_lot_of : FnScope ["lot", "worlds", "empty", "place"] ["lot", "worlds", "empty"] (defScope (top 13)) := ⟨rfl, rfl, rfl, by decide +kernel, rfl, by decide +kernel, by decide +kernel⟩
theorem ok_lot_of (Fx : FX preds globs frees fnl K mg) : FnOk P w K mg base (L2N.CX P w) 4 (He.ga K "lot_of") (fdOf K ("lot_of", none)) ["lot", "worlds", "empty"] (spF K (clK clsN K) 3 F_lot_of) :=
  fn_cold false (Fx.d 5 rfl) sc_lot_of fun H0 mu0 W cdv A outer s H E hr tk =>
    (ds_cons (ds_expr (de_call rfl (ok_check_worlds Fx) (hr.mono (by decide)) rfl (Fx.g 8 rfl) (Fx.d 2 rfl).kp (b_check_worlds Fx) (fun σ => L2N.passAt tk σ) (da_cons (de_name (pe_var (i := 1) rfl (.inl rfl))) da_nil rfl) (by decide) rfl rfl) rfl)
    (ds_cons (ds_if (dt_not (dt_tru rfl (de_call rfl (ok_is_row Fx) (hr.mono (by decide)) rfl (Fx.g 7 rfl) (Fx.d 1 rfl).kp (b_is_row Fx) (fun σ => L2N.passAt tk σ) (da_cons (de_name (pe_var (i := 0) rfl (.inl rfl))) da_nil rfl) (by decide) rfl rfl) (fun _ => rfl))) (ds_one (ds_raise (show clK clsN K 2 (He.ga K "BadLot") from ⟨_, rfl, rfl⟩) rfl tk (pmk5_oexE (excB_ok (Fx.p 1 rfl)).oex (excB_ok (Fx.p 1 rfl)).ini (excB_ok (Fx.p 1 rfl)).tI (init_BadLot Fx) (hr.mono (by decide)) (bI_BadLot Fx) pass0 rfl (Fx.g 2 rfl) (de_neg de_int) (by decide) rfl))) ds_nil)
    (ds_cons (ds_setV (i := 3) sc_lot_of.nd rfl (.inl rfl) (de_call rfl (ok_first_stranger Fx) (hr.mono (by decide)) rfl (Fx.g 10 rfl) (Fx.d 4 rfl).kp (b_first_stranger Fx) (fun σ => L2N.passAt tk σ) (da_cons (de_name (pe_var (i := 0) rfl (.inl rfl))) (da_cons (de_name (pe_var (i := 1) rfl (.inl rfl))) da_nil rfl) rfl) (by decide) rfl rfl) rfl rfl)
    (ds_cons (ds_if (dt_cmp (OpR.or op_notN op_notBl) sim_isnot (de_name (pe_var (i := 3) rfl (.inl rfl))) de_non (nomark _)) (ds_one (ds_raise (show clK clsN K 2 (He.ga K "BadLot") from ⟨_, rfl, rfl⟩) rfl tk (pmk5_oexE (excB_ok (Fx.p 1 rfl)).oex (excB_ok (Fx.p 1 rfl)).ini (excB_ok (Fx.p 1 rfl)).tI (init_BadLot Fx) (hr.mono (by decide)) (bI_BadLot Fx) pass0 rfl (Fx.g 2 rfl) (de_name (pe_var (i := 3) rfl (.inl rfl))) (by decide) rfl))) ds_nil)
    (ds_cons (ds_if (dt_bool (dw_and (dt_not (dt_tru rfl (de_name (pe_var (i := 0) rfl (.inl rfl))) (fun _ => rfl))) (dw_and1 (dt_not (dt_tru rfl (de_name (pe_var (i := 2) rfl (.inl rfl))) (fun _ => rfl)))))) (ds_one (ds_raise (show clK clsN K 2 (He.ga K "BadLot") from ⟨_, rfl, rfl⟩) rfl tk (pmk5_oexE (excB_ok (Fx.p 1 rfl)).oex (excB_ok (Fx.p 1 rfl)).ini (excB_ok (Fx.p 1 rfl)).tI (init_BadLot Fx) (hr.mono (by decide)) (bI_BadLot Fx) pass0 rfl (Fx.g 2 rfl) (de_neg de_int) (by decide) rfl))) ds_nil)
    (ds_one (ds_ret (de_callTy call_tuple_of sim_tuple bo_tuple (by decide) (by decide) rfl (Fx.fr 10 rfl) (da_cons (de_callB cr_sortedA sim_sortedA bo_sorted (by decide) (by decide) rfl (Fx.fr 6 rfl) (da_cons (de_name (pe_var (i := 0) rfl (.inl rfl))) da_nil rfl) rfl rfl) da_nil rfl) rfl rfl))))))))
theorem bD_lot_of (Fx : FX preds globs frees fnl K mg) : ∃ ds, Vals ([.bl true] : List V) ds ∧ Binds K (fdOf K ("lot_of", none)) ["lot", "worlds", "empty"] ds := (Fx.d 5 rfl).binds0 2 (List.cons_ne_nil _ _) rfl fun D doc pm an cdv ct us ks h1 h2 => match us, ks, h1, h2 with | [_, _], [_], _, _ => ⟨_, _, _, _, _, _, rfl, rfl, rfl⟩
theorem bK_lot_of (Fx : FX preds globs frees fnl K mg) : KBn K (fdOf K ("lot_of", none)) ["lot", "worlds", "empty"] 2 ["empty"] (fun us ws => us ++ ws) (fun us ws => us ++ ws) := kbn_of (Fx.d 5 rfl) fun kV doc pm an cdv ct us ws h1 h2 => match us, ws, h1, h2 with | [_, _], [_], _, _ => by kernel_rfl
theorem sc_every : FnScope ["worlds"] ["worlds"] (defScope (top 14)) := ⟨rfl, rfl, rfl, by decide +kernel, rfl, by decide +kernel, by decide +kernel⟩
theorem ok_every (Fx : FX preds globs frees fnl K mg) : FnOk P w K mg base (L2N.CX P w) 4 (He.ga K "every") (fdOf K ("every", none)) ["worlds"] (spF K (clK clsN K) 1 F_every) :=
  fn_cold false (Fx.d 6 rfl) sc_every fun H0 mu0 W cdv A outer s H E hr tk =>
    (ds_cons (ds_expr (de_call rfl (ok_check_worlds Fx) (hr.mono (by decide)) rfl (Fx.g 8 rfl) (Fx.d 2 rfl).kp (b_check_worlds Fx) (fun σ => L2N.passAt tk σ) (da_cons (de_name (pe_var (i := 0) rfl (.inl rfl))) da_nil rfl) (by decide) rfl rfl) rfl)
    (ds_one (ds_ret (de_tupRg rfl rfl (Fx.fr 10 rfl) (dr_1 rfl (Fx.fr 11 rfl) (de_name (pe_var (i := 0) rfl (.inl rfl))) rfl) rfl))))
theorem b_every (Fx : FX preds globs frees fnl K mg) : Binds K (fdOf K ("every", none)) ["worlds"] [] := (Fx.d 6 rfl).bindsN fun _ _ _ _ _ _ us hl => match us, hl with | [_], _ => rfl
theorem sc_inside : FnScope ["one", "other", "x"] ["one", "other"] (defScope (top 15)) := ⟨rfl, rfl, rfl, by decide +kernel, rfl, by decide +kernel, by decide +kernel⟩
theorem ok_inside (Fx : FX preds globs frees fnl K mg) : FnOk P w K mg base (L2N.CX P w) 1 (He.ga K "inside") (fdOf K ("inside", none)) ["one", "other"] (spF K (clK clsN K) 2 F_inside) :=
  fn_cold false (Fx.d 7 rfl) sc_inside fun H0 mu0 W cdv A outer s H E hr tk =>
    (ds_one (ds_ret (de_callB (cr_all rfl) sim_all bo_all (by decide) (by decide) rfl (Fx.fr 3 rfl) (da_cons (de_lc false (own := [("x", 2)]) rfl sc_inside.nd (di_any rfl (de_name (pe_var (i := 0) rfl (.inl rfl)))) (blkOk_by rfl) (fun _ _ _ _ _ => (pg_name (i := 2) sc_inside.nd rfl (.inl rfl) (.inr rfl))) simG_name (by decide) (fun _ _ _ _ _ => dts_nil) (fun _ _ _ _ _ => (de_cmp (op_inT (hu65 hr)) sim_in (de_name (pe_var (i := 2) rfl (.inl rfl))) (de_name (pe_var (i := 1) rfl (.inr (.inl rfl)))) rfl)) (fun _ => rfl)) da_nil rfl) rfl rfl)))
theorem b_inside (Fx : FX preds globs frees fnl K mg) : Binds K (fdOf K ("inside", none)) ["one", "other"] [] := (Fx.d 7 rfl).bindsN fun _ _ _ _ _ _ us hl => match us, hl with | [_, _], _ => rfl
theorem sc_meets : FnScope ["one", "other", "x"] ["one", "other"] (defScope (top 16)) := ⟨rfl, rfl, rfl, by decide +kernel, rfl, by decide +kernel, by decide +kernel⟩
theorem ok_meets (Fx : FX preds globs frees fnl K mg) : FnOk P w K mg base (L2N.CX P w) 1 (He.ga K "meets") (fdOf K ("meets", none)) ["one", "other"] (spF K (clK clsN K) 2 F_meets) :=
  fn_cold false (Fx.d 8 rfl) sc_meets fun H0 mu0 W cdv A outer s H E hr tk =>
    (ds_one (ds_ret (de_callB (cr_any rfl) sim_any bo_any (by decide) (by decide) rfl (Fx.fr 4 rfl) (da_cons (de_lc false (own := [("x", 2)]) rfl sc_meets.nd (di_any rfl (de_name (pe_var (i := 0) rfl (.inl rfl)))) (blkOk_by rfl) (fun _ _ _ _ _ => (pg_name (i := 2) sc_meets.nd rfl (.inl rfl) (.inr rfl))) simG_name (by decide) (fun _ _ _ _ _ => dts_nil) (fun _ _ _ _ _ => (de_cmp (op_inT (hu65 hr)) sim_in (de_name (pe_var (i := 2) rfl (.inl rfl))) (de_name (pe_var (i := 1) rfl (.inr (.inl rfl)))) rfl)) (fun _ => rfl)) da_nil rfl) rfl rfl)))
theorem b_meets (Fx : FX preds globs frees fnl K mg) : Binds K (fdOf K ("meets", none)) ["one", "other"] [] := (Fx.d 8 rfl).bindsN fun _ _ _ _ _ _ us hl => match us, hl with | [_, _], _ => rfl
theorem sc_lot_list : FnScope ["worlds", "most", "found", "layer", "lot", "x"] ["worlds", "most"] (defScope (top 17)) := ⟨rfl, rfl, rfl, by decide +kernel, rfl, by decide +kernel, by decide +kernel⟩
theorem ok_lot_list (Fx : FX preds globs frees fnl K mg) : FnOk P w K mg base (L2N.CX P w) 1 (He.ga K "lot_list") (fdOf K ("lot_list", none)) ["worlds", "most"] (spF K (clK clsN K) 2 F_lot_list) :=
  fn_cold false (Fx.d 9 rfl) sc_lot_list fun H0 mu0 W cdv A outer s H E hr tk =>
    (ds_cons (ds_setV (i := 2) sc_lot_list.nd rfl (.inl rfl) (de_lst true da_nil) rfl rfl)
    (ds_cons (ds_setV (i := 3) sc_lot_list.nd rfl (.inl rfl) (de_lst false (da_cons (de_tup da_nil) da_nil rfl)) rfl rfl)
    (ds_cons (ds_while 64 (L2.passes_of rfl) (dt_bool (dw_and (dt_tru rfl (de_name (pe_var (i := 3) rfl (.inl rfl))) (fun _ => rfl)) (dw_and1 (dt_cmp op_le (sim_I0 fun _ _ _ _ => .bl _) (de_callB call_len sim_len bo_len (by decide) (by decide) rfl (Fx.fr 1 rfl) (da_cons (de_ix rfl (de_name (pe_var (i := 3) rfl (.inl rfl))) de_int (fun _ _ => rfl)) da_nil rfl) rfl rfl) (de_name (pe_var (i := 1) rfl (.inl rfl))) (nomark _))))) (ds_cons (ds_expr (de_mt rfl (PySem.F.slot_list_extend) PySem.F.type_list_extend mt_extend sim_extend (de_name (pe_var (i := 2) rfl (.inl rfl))) (da_cons (de_callTy call_list_of sim_list bo_list (by decide) (by decide) rfl (Fx.fr 9 rfl) (da_cons (de_name (pe_var (i := 3) rfl (.inl rfl))) da_nil rfl) rfl rfl) da_nil rfl) rfl rfl rfl rfl rfl) rfl)
    (ds_one (ds_setLc2 false (i := 3) (own := [("lot", 4), ("x", 5)]) (is1 := [5]) rfl sc_lot_list.nd rfl rfl rfl (di_any rfl (de_name (pe_var (i := 3) rfl (.inl rfl)))) (blkOk_by rfl) (by decide) (fun _ _ _ _ _ => (pg_name (i := 4) sc_lot_list.nd rfl (.inl rfl) (.inr rfl))) simG_name (by decide) (fun _ _ _ _ _ => dts_nil) (fun _ _ _ _ _ => (di_range2 rfl (Fx.fr 11 rfl) (da_cons (de_if (dt_tru rfl (de_name (pe_var (i := 4) rfl (.inl rfl))) (fun _ => rfl)) (de_add rfl (de_ix rfl (de_name (pe_var (i := 4) rfl (.inl rfl))) (de_neg de_int) (fun _ _ => rfl)) de_int) de_int) (da_cons (de_name (pe_var (i := 0) rfl (.inr (.inl rfl)))) da_nil rfl) rfl) rfl rfl)) (fun _ _ _ _ _ => (pg_name (i := 5) sc_lot_list.nd rfl (.inl rfl) (.inr rfl))) simG_name (fun _ _ _ _ _ => dts_nil) (fun _ _ _ _ _ => (de_add rfl (de_name (pe_var (i := 4) rfl (.inl rfl))) (de_tup (da_cons (de_name (pe_var (i := 5) rfl (.inl rfl))) da_nil rfl)))) (fun _ => rfl) (fun _ _ => rfl)))))
    (ds_one (ds_ret (de_name (pe_var (i := 2) rfl (.inl rfl))))))))
theorem b_lot_list (Fx : FX preds globs frees fnl K mg) : Binds K (fdOf K ("lot_list", none)) ["worlds", "most"] [] := (Fx.d 9 rfl).bindsN fun _ _ _ _ _ _ us hl => match us, hl with | [_, _], _ => rfl
theorem sc_base_lots : FnScope ["base", "worlds", "empty", "lots", "place", "lot"] ["base", "worlds", "empty"] (defScope (top 19)) := ⟨rfl, rfl, rfl, by decide +kernel, rfl, by decide +kernel, by decide +kernel⟩
theorem ok_base_lots (Fx : FX preds globs frees fnl K mg) : FnOk P w K mg base (L2.CX P w) 5 (He.ga K "base_lots") (fdOf K ("base_lots", none)) ["base", "worlds", "empty"] (spF K (clK clsN K) 3 F_base_lots) :=
  fn_hot false (Fx.d 10 rfl) sc_base_lots fun H0 mu0 W cdv A outer s H E hr tk =>
    (ds_cons (ds_expr (de_call rfl (ok_check_worlds Fx) (hr.mono (by decide)) rfl (Fx.g 8 rfl) (Fx.d 2 rfl).kp (b_check_worlds Fx) (fun σ => L2N.passAt (takesN tk) σ) (da_cons (de_name (pe_var (i := 1) rfl (.inl rfl))) da_nil rfl) (by decide) rfl rfl) rfl)
    (ds_cons (ds_if (dt_not (dt_tru rfl (de_call rfl (ok_is_row Fx) (hr.mono (by decide)) rfl (Fx.g 7 rfl) (Fx.d 1 rfl).kp (b_is_row Fx) (fun σ => L2N.passAt (takesN tk) σ) (da_cons (de_name (pe_var (i := 0) rfl (.inl rfl))) da_nil rfl) (by decide) rfl rfl) (fun _ => rfl))) (ds_one (ds_raise (show clK clsN K 4 (He.ga K "BadBase") from ⟨_, rfl, rfl⟩) rfl (takesN tk) (pmk5_oexE (excB_ok (Fx.p 2 rfl)).oex (excB_ok (Fx.p 2 rfl)).ini (excB_ok (Fx.p 2 rfl)).tI (init_BadBase Fx) (hr.mono (by decide)) (bI_BadBase Fx) pass0 rfl (Fx.g 4 rfl) (de_neg de_int) (by decide) rfl))) ds_nil)
    (ds_cons (ds_setV (i := 3) sc_base_lots.nd rfl (.inl rfl) (de_lst true da_nil) rfl rfl)
    (ds_cons (ds_for (L2.passes_of rfl) rfl (di_enum rfl rfl (Fx.fr 12 rfl) (da_cons (de_name (pe_var (i := 0) rfl (.inl rfl))) da_nil rfl) rfl) (pg_tup rfl (pgs_cons (pg_name (i := 4) sc_base_lots.nd rfl (.inl rfl) (.inl rfl)) (pgs_cons (pg_name (i := 5) sc_base_lots.nd rfl (.inl rfl) (.inl rfl)) pgs_nil rfl) rfl) rfl rfl) simG_tup (ds_one (ds_tryOnlyX rfl rfl rfl ⟨rfl, by decide, .inl (Fx.g 2 rfl)⟩ (catB_ok rfl rfl (Fx.p 3 rfl)) (fun _ => PassesOwnAt.leaving) tk (fun W pn xe tkB hpB => (ds_one (ds_expr (de_mt rfl (PySem.F.slot_list_append) PySem.F.type_list_append mt_append sim_append (de_name (pe_var (i := 3) rfl (.inl rfl))) (da_cons (de_callK (ks := ["empty"]) rfl (ok_lot_of Fx) (hr.mono (by decide)) rfl (Fx.g 11 rfl) (Fx.d 5 rfl).kp (bK_lot_of Fx) (fun σ => L2N.passAt tkB σ) (da_cons (de_name (pe_var (i := 5) rfl (.inl rfl))) (da_cons (de_name (pe_var (i := 1) rfl (.inl rfl))) da_nil rfl) rfl) (dk_cons (de_name (pe_var (i := 2) rfl (.inl rfl))) dk_nil) rfl rfl rfl rfl (by decide) rfl rfl) da_nil rfl) rfl rfl rfl rfl rfl) rfl))) (fun a oe cls d pn hz hf tkS hot => (ds_one (ds_raiseHN (show clK clsN K 4 (He.ga K "BadBase") from ⟨_, rfl, rfl⟩) hot tkS (pmk5_oexEH (excB_ok (Fx.p 2 rfl)).oex (excB_ok (Fx.p 2 rfl)).ini (excB_ok (Fx.p 2 rfl)).tI (initH_BadBase Fx) (L2H.roomH_mark (hr.mono (by decide)) _) hot (bI_BadBase Fx) pass0 rfl (Fx.g 4 rfl) (de_name (pe_var (i := 4) rfl (.inl rfl))) (by decide) rfl)))))) (fun _ => rfl))
    (ds_cons (ds_if (dt_cmp op_gt (sim_I0 fun _ _ _ _ => .bl _) (de_callB call_len sim_len bo_len (by decide) (by decide) rfl (Fx.fr 1 rfl) (da_cons (de_name (pe_var (i := 3) rfl (.inl rfl))) da_nil rfl) rfl rfl) de_int (nomark _)) (ds_one (ds_raise (show clK clsN K 5 (He.ga K "TooMany") from ⟨_, rfl, rfl⟩) rfl (takesN tk) (pmk5_oexE (excB_ok (Fx.p 4 rfl)).oex (excB_ok (Fx.p 4 rfl)).ini (excB_ok (Fx.p 4 rfl)).tI (init_TooMany Fx) (hr.mono (by decide)) (bI_TooMany Fx) pass0 rfl (Fx.g 5 rfl) de_int (by decide) rfl))) ds_nil)
    (ds_one (ds_ret (de_callTy call_tuple_of sim_tuple bo_tuple (by decide) (by decide) rfl (Fx.fr 10 rfl) (da_cons (de_name (pe_var (i := 3) rfl (.inl rfl))) da_nil rfl) rfl rfl))))))))
theorem b_base_lots (Fx : FX preds globs frees fnl K mg) : Binds K (fdOf K ("base_lots", none)) ["base", "worlds", "empty"] [] := (Fx.d 10 rfl).bindsN fun _ _ _ _ _ _ us hl => match us, hl with | [_, _, _], _ => rfl
theorem sc_base_of : FnScope ["base", "worlds"] ["base", "worlds"] (defScope (top 20)) := ⟨rfl, rfl, rfl, by decide +kernel, rfl, by decide +kernel, by decide +kernel⟩
theorem ok_base_of (Fx : FX preds globs frees fnl K mg) : FnOk P w K mg base (L2.CX P w) 6 (He.ga K "base_of") (fdOf K ("base_of", none)) ["base", "worlds"] (spF K (clK clsN K) 2 F_base_of) :=
  fn_hot false (Fx.d 11 rfl) sc_base_of fun H0 mu0 W cdv A outer s H E hr tk =>
    (ds_one (ds_ret (de_call rfl (ok_base_lots Fx) (hr.mono (by decide)) rfl (Fx.g 16 rfl) (Fx.d 10 rfl).kp (b_base_lots Fx) (fun σ => L2.passAt tk σ) (da_cons (de_name (pe_var (i := 0) rfl (.inl rfl))) (da_cons (de_name (pe_var (i := 1) rfl (.inl rfl))) (da_cons de_bl da_nil rfl) rfl) rfl) (by decide) rfl rfl)))
theorem b_base_of (Fx : FX preds globs frees fnl K mg) : Binds K (fdOf K ("base_of", none)) ["base", "worlds"] [] := (Fx.d 11 rfl).bindsN fun _ _ _ _ _ _ us hl => match us, hl with | [_, _], _ => rfl
theorem sc_places_of : FnScope ["sublist", "many", "place"] ["sublist", "many"] (defScope (top 21)) := ⟨rfl, rfl, rfl, by decide +kernel, rfl, by decide +kernel, by decide +kernel⟩
theorem ok_places_of (Fx : FX preds globs frees fnl K mg) : FnOk P w K mg base (L2N.CX P w) 4 (He.ga K "places_of") (fdOf K ("places_of", none)) ["sublist", "many"] (spF K (clK clsN K) 2 F_places_of) :=
  fn_cold false (Fx.d 12 rfl) sc_places_of fun H0 mu0 W cdv A outer s H E hr tk =>
    (ds_cons (ds_if (dt_not (dt_tru rfl (de_call rfl (ok_is_row Fx) (hr.mono (by decide)) rfl (Fx.g 7 rfl) (Fx.d 1 rfl).kp (b_is_row Fx) (fun σ => L2N.passAt tk σ) (da_cons (de_name (pe_var (i := 0) rfl (.inl rfl))) da_nil rfl) (by decide) rfl rfl) (fun _ => rfl))) (ds_one (ds_raise (show clK clsN K 3 (He.ga K "BadOrder") from ⟨_, rfl, rfl⟩) rfl tk (pmk5_oexE (excB_ok (Fx.p 5 rfl)).oex (excB_ok (Fx.p 5 rfl)).ini (excB_ok (Fx.p 5 rfl)).tI (init_BadOrder Fx) (hr.mono (by decide)) (bI_BadOrder Fx) pass0 rfl (Fx.g 3 rfl) (de_neg de_int) (by decide) rfl))) ds_nil)
    (ds_cons (ds_setV (i := 2) sc_places_of.nd rfl (.inl rfl) (de_call rfl (ok_first_stranger Fx) (hr.mono (by decide)) rfl (Fx.g 10 rfl) (Fx.d 4 rfl).kp (b_first_stranger Fx) (fun σ => L2N.passAt tk σ) (da_cons (de_name (pe_var (i := 0) rfl (.inl rfl))) (da_cons (de_name (pe_var (i := 1) rfl (.inl rfl))) da_nil rfl) rfl) (by decide) rfl rfl) rfl rfl)
    (ds_cons (ds_if (dt_cmp (OpR.or op_notN op_notBl) sim_isnot (de_name (pe_var (i := 2) rfl (.inl rfl))) de_non (nomark _)) (ds_one (ds_raise (show clK clsN K 3 (He.ga K "BadOrder") from ⟨_, rfl, rfl⟩) rfl tk (pmk5_oexE (excB_ok (Fx.p 5 rfl)).oex (excB_ok (Fx.p 5 rfl)).ini (excB_ok (Fx.p 5 rfl)).tI (init_BadOrder Fx) (hr.mono (by decide)) (bI_BadOrder Fx) pass0 rfl (Fx.g 3 rfl) (de_name (pe_var (i := 2) rfl (.inl rfl))) (by decide) rfl))) ds_nil)
    (ds_one (ds_ret (de_callTy call_tuple_of sim_tuple bo_tuple (by decide) (by decide) rfl (Fx.fr 10 rfl) (da_cons (de_callB cr_sortedA sim_sortedA bo_sorted (by decide) (by decide) rfl (Fx.fr 6 rfl) (da_cons (de_name (pe_var (i := 0) rfl (.inl rfl))) da_nil rfl) rfl rfl) da_nil rfl) rfl rfl))))))
theorem b_places_of (Fx : FX preds globs frees fnl K mg) : Binds K (fdOf K ("places_of", none)) ["sublist", "many"] [] := (Fx.d 12 rfl).bindsN fun _ _ _ _ _ _ us hl => match us, hl with | [_, _], _ => rfl
theorem sc_sublist_of : FnScope ["base", "worlds", "sublist"] ["base", "worlds", "sublist"] (defScope (top 22)) := ⟨rfl, rfl, rfl, by decide +kernel, rfl, by decide +kernel, by decide +kernel⟩
theorem ok_sublist_of (Fx : FX preds globs frees fnl K mg) : FnOk P w K mg base (L2.CX P w) 7 (He.ga K "sublist_of") (fdOf K ("sublist_of", none)) ["base", "worlds", "sublist"] (spF K (clK clsN K) 3 F_sublist_of) :=
  fn_hot false (Fx.d 13 rfl) sc_sublist_of fun H0 mu0 W cdv A outer s H E hr tk =>
    (ds_one (ds_ret (de_call rfl (ok_places_of Fx) (hr.mono (by decide)) rfl (Fx.g 18 rfl) (Fx.d 12 rfl).kp (b_places_of Fx) (fun σ => L2N.passAt (takesN tk) σ) (da_cons (de_name (pe_var (i := 2) rfl (.inl rfl))) (da_cons (de_callB call_len sim_len bo_len (by decide) (by decide) rfl (Fx.fr 1 rfl) (da_cons (de_call rfl (ok_base_of Fx) (hr.mono (by decide)) rfl (Fx.g 17 rfl) (Fx.d 11 rfl).kp (b_base_of Fx) (fun σ => L2.passAt tk σ) (da_cons (de_name (pe_var (i := 0) rfl (.inl rfl))) (da_cons (de_name (pe_var (i := 1) rfl (.inl rfl))) da_nil rfl) rfl) (by decide) rfl rfl) da_nil rfl) rfl rfl) da_nil rfl) rfl) (by decide) rfl rfl)))
theorem b_sublist_of (Fx : FX preds globs frees fnl K mg) : Binds K (fdOf K ("sublist_of", none)) ["base", "worlds", "sublist"] [] := (Fx.d 13 rfl).bindsN fun _ _ _ _ _ _ us hl => match us, hl with | [_, _, _], _ => rfl
theorem sc_says : FnScope ["base", "worlds", "sublist", "lots", "places", "x", "place"] ["base", "worlds", "sublist"] (defScope (top 23)) := ⟨rfl, rfl, rfl, by decide +kernel, rfl, by decide +kernel, by decide +kernel⟩
theorem ok_says (Fx : FX preds globs frees fnl K mg) : FnOk P w K mg base (L2.CX P w) 7 (He.ga K "says") (fdOf K ("says", none)) ["base", "worlds", "sublist"] (spF K (clK clsN K) 3 F_says) :=
  fn_hot false (Fx.d 14 rfl) sc_says fun H0 mu0 W cdv A outer s H E hr tk =>
    (ds_cons (ds_setV (i := 3) sc_says.nd rfl (.inr rfl) (de_call rfl (ok_base_of Fx) (hr.mono (by decide)) rfl (Fx.g 17 rfl) (Fx.d 11 rfl).kp (b_base_of Fx) (fun σ => L2.passAt tk σ) (da_cons (de_name (pe_var (i := 0) rfl (.inl rfl))) (da_cons (de_name (pe_var (i := 1) rfl (.inl rfl))) da_nil rfl) rfl) (by decide) rfl rfl) rfl rfl)
    (ds_cons (ds_setV (i := 4) sc_says.nd rfl (.inr rfl) (de_call rfl (ok_places_of Fx) (hr.mono (by decide)) rfl (Fx.g 18 rfl) (Fx.d 12 rfl).kp (b_places_of Fx) (fun σ => L2N.passAt (takesN tk) σ) (da_cons (de_name (pe_var (i := 2) rfl (.inl rfl))) (da_cons (de_callB call_len sim_len bo_len (by decide) (by decide) rfl (Fx.fr 1 rfl) (da_cons (de_name (pe_var (i := 3) rfl (.inr (.inl rfl)))) da_nil rfl) rfl rfl) da_nil rfl) rfl) (by decide) rfl rfl) rfl rfl)
    (ds_one (ds_ret (de_callTy call_tuple_of sim_tuple bo_tuple (by decide) (by decide) rfl (Fx.fr 10 rfl) (da_cons (de_lc false (own := [("x", 5)]) rfl sc_says.nd (di_any rfl (de_call rfl (ok_every Fx) (hr.mono (by decide)) rfl (Fx.g 12 rfl) (Fx.d 6 rfl).kp (b_every Fx) (fun σ => L2N.passAt (takesN tk) σ) (da_cons (de_name (pe_var (i := 1) rfl (.inl rfl))) da_nil rfl) (by decide) rfl rfl)) (blkOk_by rfl) (fun _ _ _ _ _ => (pg_name (i := 5) sc_says.nd rfl (.inr rfl) (.inl rfl))) simG_name (by decide) (fun _ _ _ _ _ => (dts_one (dt_tru rfl (de_callB (cr_all rfl) sim_all bo_all (by decide) (by decide) rfl (Fx.fr 3 rfl) (da_cons (de_lc false (own := [("place", 6)]) rfl sc_says.nd (di_any rfl (de_name (pe_var (i := 4) rfl (.inr (.inl rfl))))) (blkOk_by rfl) (fun _ _ _ _ _ => (pg_name (i := 6) sc_says.nd rfl (.inl rfl) (.inr rfl))) simG_name (by decide) (fun _ _ _ _ _ => dts_nil) (fun _ _ _ _ _ => (de_cmp (op_inT (hu65 hr)) sim_in (de_name (pe_var (i := 5) rfl (.inr (.inl rfl)))) (de_ix rfl (de_name (pe_var (i := 3) rfl (.inr (.inl rfl)))) (de_name (pe_var (i := 6) rfl (.inl rfl))) (fun _ _ => rfl)) rfl)) (fun _ => rfl)) da_nil rfl) rfl rfl) (fun _ => rfl)))) (fun _ _ _ _ _ => (de_name (pe_var (i := 5) rfl (.inr (.inl rfl))))) (fun _ => rfl)) da_nil rfl) rfl rfl)))))
theorem b_says (Fx : FX preds globs frees fnl K mg) : Binds K (fdOf K ("says", none)) ["base", "worlds", "sublist"] [] := (Fx.d 14 rfl).bindsN fun _ _ _ _ _ _ us hl => match us, hl with | [_, _, _], _ => rfl
theorem sc_carries : FnScope ["base", "worlds", "sublist", "lot", "told"] ["base", "worlds", "sublist", "lot"] (defScope (top 24)) := ⟨rfl, rfl, rfl, by decide +kernel, rfl, by decide +kernel, by decide +kernel⟩
theorem ok_carries (Fx : FX preds globs frees fnl K mg) : FnOk P w K mg base (L2.CX P w) 8 (He.ga K "carries") (fdOf K ("carries", none)) ["base", "worlds", "sublist", "lot"] (spF K (clK clsN K) 4 F_carries) :=
  fn_hot false (Fx.d 15 rfl) sc_carries fun H0 mu0 W cdv A outer s H E hr tk =>
    (ds_cons (ds_setV (i := 4) sc_carries.nd rfl (.inl rfl) (de_call rfl (ok_says Fx) (hr.mono (by decide)) rfl (Fx.g 20 rfl) (Fx.d 14 rfl).kp (b_says Fx) (fun σ => L2.passAt tk σ) (da_cons (de_name (pe_var (i := 0) rfl (.inl rfl))) (da_cons (de_name (pe_var (i := 1) rfl (.inl rfl))) (da_cons (de_name (pe_var (i := 2) rfl (.inl rfl))) da_nil rfl) rfl) rfl) (by decide) rfl rfl) rfl rfl)
    (ds_one (ds_ret (de_call rfl (ok_inside Fx) (hr.mono (by decide)) rfl (Fx.g 13 rfl) (Fx.d 7 rfl).kp (b_inside Fx) (fun σ => L2N.passAt (takesN tk) σ) (da_cons (de_name (pe_var (i := 4) rfl (.inl rfl))) (da_cons (de_callD (dds := [.bl true]) rfl (ok_lot_of Fx) (hr.mono (by decide)) rfl (Fx.g 11 rfl) (Fx.d 5 rfl).kp (bD_lot_of Fx).choose_spec.2 (bD_lot_of Fx).choose_spec.1 (fun _ _ => .cons (.bl _) .nil) (fun σ => L2N.passAt (takesN tk) σ) (da_cons (de_name (pe_var (i := 3) rfl (.inl rfl))) (da_cons (de_name (pe_var (i := 1) rfl (.inl rfl))) da_nil rfl) rfl) (by decide) rfl rfl) da_nil rfl) rfl) (by decide) rfl rfl))))
theorem b_carries (Fx : FX preds globs frees fnl K mg) : Binds K (fdOf K ("carries", none)) ["base", "worlds", "sublist", "lot"] [] := (Fx.d 15 rfl).bindsN fun _ _ _ _ _ _ us hl => match us, hl with | [_, _, _, _], _ => rfl
theorem sc_check_places_many : FnScope ["many"] ["many"] (defScope (top 25)) := ⟨rfl, rfl, rfl, by decide +kernel, rfl, by decide +kernel, by decide +kernel⟩
theorem ok_check_places_many (Fx : FX preds globs frees fnl K mg) : FnOk P w K mg base (L2N.CX P w) 3 (He.ga K "check_places_many") (fdOf K ("check_places_many", none)) ["many"] (spF K (clK clsN K) 1 F_check_places_many) :=
  fn_cold false (Fx.d 16 rfl) sc_check_places_many fun H0 mu0 W cdv A outer s H E hr tk =>
    (ds_one (ds_if (dt_bool (dw_or (dt_not (dt_tru rfl (de_call rfl (ok_whole_number Fx) (hr.mono (by decide)) rfl (Fx.g 6 rfl) (Fx.d 0 rfl).kp (b_whole_number Fx) (fun σ => L2N.passAt tk σ) (da_cons (de_name (pe_var (i := 0) rfl (.inl rfl))) da_nil rfl) (by decide) rfl rfl) (fun _ => rfl))) (dw_or1 (dt_not (dt_chain op_le (sim_I0 fun _ _ _ _ => .bl _) op_le (sim_I0 fun _ _ _ _ => .bl _) de_int (de_name (pe_var (i := 0) rfl (.inl rfl))) de_int rfl))))) (ds_one (ds_raise (show clK clsN K 1 (He.ga K "BadNumber") from ⟨_, rfl, rfl⟩) rfl tk (pmk5_oexE (excB_ok (Fx.p 0 rfl)).oex (excB_ok (Fx.p 0 rfl)).ini (excB_ok (Fx.p 0 rfl)).tI (init_BadNumber Fx) (hr.mono (by decide)) (bI_BadNumber Fx) pass0 rfl (Fx.g 1 rfl) de_str (by decide) rfl))) ds_nil))
theorem b_check_places_many (Fx : FX preds globs frees fnl K mg) : Binds K (fdOf K ("check_places_many", none)) ["many"] [] := (Fx.d 16 rfl).bindsN fun _ _ _ _ _ _ us hl => match us, hl with | [_], _ => rfl
theorem sc_all_sublists : FnScope ["many"] ["many"] (defScope (top 26)) := ⟨rfl, rfl, rfl, by decide +kernel, rfl, by decide +kernel, by decide +kernel⟩
theorem ok_all_sublists (Fx : FX preds globs frees fnl K mg) : FnOk P w K mg base (L2N.CX P w) 4 (He.ga K "all_sublists") (fdOf K ("all_sublists", none)) ["many"] (spF K (clK clsN K) 1 F_all_sublists) :=
  fn_cold false (Fx.d 17 rfl) sc_all_sublists fun H0 mu0 W cdv A outer s H E hr tk =>
    (ds_cons (ds_expr (de_call rfl (ok_check_places_many Fx) (hr.mono (by decide)) rfl (Fx.g 22 rfl) (Fx.d 16 rfl).kp (b_check_places_many Fx) (fun σ => L2N.passAt tk σ) (da_cons (de_name (pe_var (i := 0) rfl (.inl rfl))) da_nil rfl) (by decide) rfl rfl) rfl)
    (ds_one (ds_ret (de_callTy call_tuple_of sim_tuple bo_tuple (by decide) (by decide) rfl (Fx.fr 10 rfl) (da_cons (de_call rfl (ok_lot_list Fx) (hr.mono (by decide)) rfl (Fx.g 15 rfl) (Fx.d 9 rfl).kp (b_lot_list Fx) (fun σ => L2N.passAt tk σ) (da_cons (de_name (pe_var (i := 0) rfl (.inl rfl))) (da_cons (de_name (pe_var (i := 0) rfl (.inl rfl))) da_nil rfl) rfl) (by decide) rfl rfl) da_nil rfl) rfl rfl))))
theorem b_all_sublists (Fx : FX preds globs frees fnl K mg) : Binds K (fdOf K ("all_sublists", none)) ["many"] [] := (Fx.d 17 rfl).bindsN fun _ _ _ _ _ _ us hl => match us, hl with | [_], _ => rfl
theorem sc_but_not_all : FnScope ["lot", "worlds", "told"] ["lot", "worlds"] (defScope (top 27)) := ⟨rfl, rfl, rfl, by decide +kernel, rfl, by decide +kernel, by decide +kernel⟩
theorem ok_but_not_all (Fx : FX preds globs frees fnl K mg) : FnOk P w K mg base (L2N.CX P w) 5 (He.ga K "but_not_all") (fdOf K ("but_not_all", none)) ["lot", "worlds"] (spF K (clK clsN K) 2 F_but_not_all) :=
  fn_cold false (Fx.d 18 rfl) sc_but_not_all fun H0 mu0 W cdv A outer s H E hr tk =>
    (ds_cons (ds_setV (i := 2) sc_but_not_all.nd rfl (.inl rfl) (de_callD (dds := [.bl true]) rfl (ok_lot_of Fx) (hr.mono (by decide)) rfl (Fx.g 11 rfl) (Fx.d 5 rfl).kp (bD_lot_of Fx).choose_spec.2 (bD_lot_of Fx).choose_spec.1 (fun _ _ => .cons (.bl _) .nil) (fun σ => L2N.passAt tk σ) (da_cons (de_name (pe_var (i := 0) rfl (.inl rfl))) (da_cons (de_name (pe_var (i := 1) rfl (.inl rfl))) da_nil rfl) rfl) (by decide) rfl rfl) rfl rfl)
    (ds_cons (ds_if (dt_cmp (op_eqD (hu64 hr)) sim_eq (de_callB call_len sim_len bo_len (by decide) (by decide) rfl (Fx.fr 1 rfl) (da_cons (de_name (pe_var (i := 2) rfl (.inl rfl))) da_nil rfl) rfl rfl) (de_name (pe_var (i := 1) rfl (.inl rfl))) (nomark _)) (ds_one (ds_raise (show clK clsN K 2 (He.ga K "BadLot") from ⟨_, rfl, rfl⟩) rfl tk (pmk5_oexE (excB_ok (Fx.p 1 rfl)).oex (excB_ok (Fx.p 1 rfl)).ini (excB_ok (Fx.p 1 rfl)).tI (init_BadLot Fx) (hr.mono (by decide)) (bI_BadLot Fx) pass0 rfl (Fx.g 2 rfl) (de_neg de_int) (by decide) rfl))) ds_nil)
    (ds_one (ds_ret (de_name (pe_var (i := 2) rfl (.inl rfl)))))))
theorem b_but_not_all (Fx : FX preds globs frees fnl K mg) : Binds K (fdOf K ("but_not_all", none)) ["lot", "worlds"] [] := (Fx.d 18 rfl).bindsN fun _ _ _ _ _ _ us hl => match us, hl with | [_, _], _ => rfl
theorem sc_mask_of : FnScope ["numbers", "number"] ["numbers"] (defScope (top 29)) := ⟨rfl, rfl, rfl, by decide +kernel, rfl, by decide +kernel, by decide +kernel⟩
theorem ok_mask_of (Fx : FX preds globs frees fnl K mg) : FnOk P w K mg base (L2N.CX P w) 1 (He.ga K "mask_of") (fdOf K ("mask_of", none)) ["numbers"] (spF K (clK clsN K) 1 F_mask_of) :=
  fn_cold false (Fx.d 19 rfl) sc_mask_of fun H0 mu0 W cdv A outer s H E hr tk =>
    (ds_one (ds_ret (de_callB (cr_sum rfl) sim_sum bo_sum (by decide) (by decide) rfl (Fx.fr 2 rfl) (da_cons (de_lc false (own := [("number", 1)]) rfl sc_mask_of.nd (di_any rfl (de_name (pe_var (i := 0) rfl (.inl rfl)))) (blkOk_by rfl) (fun _ _ _ _ _ => (pg_name (i := 1) sc_mask_of.nd rfl (.inl rfl) (.inr rfl))) simG_name (by decide) (fun _ _ _ _ _ => dts_nil) (fun _ _ _ _ _ => (de_shl de_int (de_name (pe_var (i := 1) rfl (.inl rfl))))) (fun _ => rfl)) da_nil rfl) rfl rfl)))
theorem b_mask_of (Fx : FX preds globs frees fnl K mg) : Binds K (fdOf K ("mask_of", none)) ["numbers"] [] := (Fx.d 19 rfl).bindsN fun _ _ _ _ _ _ us hl => match us, hl with | [_], _ => rfl
theorem sc_said_masks : FnScope ["lots", "worlds", "masks", "lot", "told", "mask"] ["lots", "worlds"] (defScope (top 30)) := ⟨rfl, rfl, rfl, by decide +kernel, rfl, by decide +kernel, by decide +kernel⟩
theorem ok_said_masks (Fx : FX preds globs frees fnl K mg) : FnOk P w K mg base (L2N.CX P w) 2 (He.ga K "said_masks") (fdOf K ("said_masks", none)) ["lots", "worlds"] (spF K (clK clsN K) 2 F_said_masks) :=
  fn_cold false (Fx.d 20 rfl) sc_said_masks fun H0 mu0 W cdv A outer s H E hr tk =>
    (ds_cons (ds_setV (i := 2) sc_said_masks.nd rfl (.inl rfl) (de_lst false (da_cons (de_sub (de_shl de_int (de_name (pe_var (i := 1) rfl (.inl rfl)))) de_int) da_nil rfl)) rfl rfl)
    (ds_cons (ds_for (L2.passes_of rfl) rfl (di_any rfl (de_name (pe_var (i := 0) rfl (.inl rfl)))) (pg_name (i := 3) sc_said_masks.nd rfl (.inl rfl) (.inl rfl)) simG_name (ds_cons (ds_setV (i := 4) sc_said_masks.nd rfl (.inr rfl) (de_call rfl (ok_mask_of Fx) (hr.mono (by decide)) rfl (Fx.g 25 rfl) (Fx.d 19 rfl).kp (b_mask_of Fx) (fun σ => L2N.passAt tk σ) (da_cons (de_name (pe_var (i := 3) rfl (.inl rfl))) da_nil rfl) (by decide) rfl rfl) rfl rfl)
    (ds_one (ds_setV (i := 2) sc_said_masks.nd rfl (.inl rfl) (de_add rfl (de_name (pe_var (i := 2) rfl (.inl rfl))) (de_lc false (own := [("mask", 5)]) rfl sc_said_masks.nd (di_any rfl (de_name (pe_var (i := 2) rfl (.inl rfl)))) (blkOk_by rfl) (fun _ _ _ _ _ => (pg_name (i := 5) sc_said_masks.nd rfl (.inl rfl) (.inr rfl))) simG_name (by decide) (fun _ _ _ _ _ => dts_nil) (fun _ _ _ _ _ => (de_bitand (de_name (pe_var (i := 5) rfl (.inl rfl))) (de_name (pe_var (i := 4) rfl (.inr (.inl rfl)))))) (fun _ => rfl))) rfl rfl))) (fun _ => rfl))
    (ds_one (ds_ret (de_name (pe_var (i := 2) rfl (.inl rfl)))))))
theorem b_said_masks (Fx : FX preds globs frees fnl K mg) : Binds K (fdOf K ("said_masks", none)) ["lots", "worlds"] [] := (Fx.d 20 rfl).bindsN fun _ _ _ _ _ _ us hl => match us, hl with | [_, _], _ => rfl
theorem sc_carrying : FnScope ["lots", "worlds", "lot", "outside", "mask"] ["lots", "worlds", "lot"] (defScope (top 31)) := ⟨rfl, rfl, rfl, by decide +kernel, rfl, by decide +kernel, by decide +kernel⟩
theorem ok_carrying (Fx : FX preds globs frees fnl K mg) : FnOk P w K mg base (L2N.CX P w) 3 (He.ga K "carrying") (fdOf K ("carrying", none)) ["lots", "worlds", "lot"] (spF K (clK clsN K) 3 F_carrying) :=
  fn_cold false (Fx.d 21 rfl) sc_carrying fun H0 mu0 W cdv A outer s H E hr tk =>
    (ds_cons (ds_setV (i := 3) sc_carrying.nd rfl (.inr rfl) (de_sub (de_sub (de_shl de_int (de_name (pe_var (i := 1) rfl (.inl rfl)))) de_int) (de_call rfl (ok_mask_of Fx) (hr.mono (by decide)) rfl (Fx.g 25 rfl) (Fx.d 19 rfl).kp (b_mask_of Fx) (fun σ => L2N.passAt tk σ) (da_cons (de_name (pe_var (i := 2) rfl (.inl rfl))) da_nil rfl) (by decide) rfl rfl)) rfl rfl)
    (ds_one (ds_ret (de_lc false (own := [("mask", 4)]) rfl sc_carrying.nd (di_any rfl (de_call rfl (ok_said_masks Fx) (hr.mono (by decide)) rfl (Fx.g 26 rfl) (Fx.d 20 rfl).kp (b_said_masks Fx) (fun σ => L2N.passAt tk σ) (da_cons (de_name (pe_var (i := 0) rfl (.inl rfl))) (da_cons (de_name (pe_var (i := 1) rfl (.inl rfl))) da_nil rfl) rfl) (by decide) rfl rfl)) (blkOk_by rfl) (fun _ _ _ _ _ => (pg_name (i := 4) sc_carrying.nd rfl (.inl rfl) (.inr rfl))) simG_name (by decide) (fun _ _ _ _ _ => dts_nil) (fun _ _ _ _ _ => (de_cmp (op_eqD (hu64 hr)) sim_eq (de_bitand (de_name (pe_var (i := 4) rfl (.inl rfl))) (de_name (pe_var (i := 3) rfl (.inr (.inl rfl))))) de_int (nomark _))) (fun _ => rfl)))))
theorem b_carrying (Fx : FX preds globs frees fnl K mg) : Binds K (fdOf K ("carrying", none)) ["lots", "worlds", "lot"] [] := (Fx.d 21 rfl).bindsN fun _ _ _ _ _ _ us hl => match us, hl with | [_, _, _], _ => rfl
theorem sc_rests : FnScope ["base", "worlds", "lot", "lots", "carried", "found", "sublist", "mask", "more", "place"] ["base", "worlds", "lot"] (defScope (top 32)) := ⟨rfl, rfl, rfl, by decide +kernel, rfl, by decide +kernel, by decide +kernel⟩
theorem ok_rests (Fx : FX preds globs frees fnl K mg) : FnOk P w K mg base (L2.CX P w) 7 (He.ga K "rests") (fdOf K ("rests", none)) ["base", "worlds", "lot"] (spF K (clK clsN K) 3 F_rests) :=
  fn_hot false (Fx.d 22 rfl) sc_rests fun H0 mu0 W cdv A outer s H E hr tk =>
    (ds_cons (ds_setV (i := 3) sc_rests.nd rfl (.inl rfl) (de_call rfl (ok_base_of Fx) (hr.mono (by decide)) rfl (Fx.g 17 rfl) (Fx.d 11 rfl).kp (b_base_of Fx) (fun σ => L2.passAt tk σ) (da_cons (de_name (pe_var (i := 0) rfl (.inl rfl))) (da_cons (de_name (pe_var (i := 1) rfl (.inl rfl))) da_nil rfl) rfl) (by decide) rfl rfl) rfl rfl)
    (ds_cons (ds_setV (i := 4) sc_rests.nd rfl (.inr rfl) (de_call rfl (ok_carrying Fx) (hr.mono (by decide)) rfl (Fx.g 27 rfl) (Fx.d 21 rfl).kp (b_carrying Fx) (fun σ => L2N.passAt (takesN tk) σ) (da_cons (de_name (pe_var (i := 3) rfl (.inl rfl))) (da_cons (de_name (pe_var (i := 1) rfl (.inl rfl))) (da_cons (de_call rfl (ok_but_not_all Fx) (hr.mono (by decide)) rfl (Fx.g 24 rfl) (Fx.d 18 rfl).kp (b_but_not_all Fx) (fun σ => L2N.passAt (takesN tk) σ) (da_cons (de_name (pe_var (i := 2) rfl (.inl rfl))) (da_cons (de_name (pe_var (i := 1) rfl (.inl rfl))) da_nil rfl) rfl) (by decide) rfl rfl) da_nil rfl) rfl) rfl) (by decide) rfl rfl) rfl rfl)
    (ds_cons (ds_setV (i := 5) sc_rests.nd rfl (.inl rfl) (de_lst true da_nil) rfl rfl)
    (ds_cons (ds_for (L2.passes_of rfl) rfl (di_any rfl (de_call rfl (ok_lot_list Fx) (hr.mono (by decide)) rfl (Fx.g 15 rfl) (Fx.d 9 rfl).kp (b_lot_list Fx) (fun σ => L2N.passAt (takesN tk) σ) (da_cons (de_callB call_len sim_len bo_len (by decide) (by decide) rfl (Fx.fr 1 rfl) (da_cons (de_name (pe_var (i := 3) rfl (.inl rfl))) da_nil rfl) rfl rfl) (da_cons (de_callB call_len sim_len bo_len (by decide) (by decide) rfl (Fx.fr 1 rfl) (da_cons (de_name (pe_var (i := 3) rfl (.inl rfl))) da_nil rfl) rfl rfl) da_nil rfl) rfl) (by decide) rfl rfl)) (pg_name (i := 6) sc_rests.nd rfl (.inr rfl) (.inl rfl)) simG_name (ds_cons (ds_setV (i := 7) sc_rests.nd rfl (.inr rfl) (de_call rfl (ok_mask_of Fx) (hr.mono (by decide)) rfl (Fx.g 25 rfl) (Fx.d 19 rfl).kp (b_mask_of Fx) (fun σ => L2N.passAt (takesN tk) σ) (da_cons (de_name (pe_var (i := 6) rfl (.inr (.inl rfl)))) da_nil rfl) (by decide) rfl rfl) rfl rfl)
    (ds_cons (ds_setLc false (i := 8) (own := [("place", 9)]) rfl sc_rests.nd rfl rfl rfl (di_range1 rfl (Fx.fr 11 rfl) (da_cons (de_callB call_len sim_len bo_len (by decide) (by decide) rfl (Fx.fr 1 rfl) (da_cons (de_name (pe_var (i := 3) rfl (.inl rfl))) da_nil rfl) rfl rfl) da_nil rfl) rfl) (blkOk_by rfl) (fun _ _ _ _ _ => (pg_name (i := 9) sc_rests.nd rfl (.inl rfl) (.inr rfl))) simG_name (by decide) (fun _ _ _ _ _ => (dts_one (dt_cmp (op_notInT (hu65 hr)) sim_in (de_name (pe_var (i := 9) rfl (.inl rfl))) (de_name (pe_var (i := 6) rfl (.inr (.inl rfl)))) rfl))) (fun _ _ _ _ _ => (de_ix rfl (de_name (pe_var (i := 4) rfl (.inr (.inl rfl)))) (de_add rfl (de_name (pe_var (i := 7) rfl (.inr (.inl rfl)))) (de_shl de_int (de_name (pe_var (i := 9) rfl (.inl rfl))))) (fun _ _ => rfl))) (fun _ => rfl))
    (ds_one (ds_if (dt_bool (dw_and (dt_not (dt_tru rfl (de_ix rfl (de_name (pe_var (i := 4) rfl (.inr (.inl rfl)))) (de_name (pe_var (i := 7) rfl (.inr (.inl rfl)))) (fun _ _ => rfl)) (fun _ => rfl))) (dw_and1 (dt_tru rfl (de_callB (cr_all rfl) sim_all bo_all (by decide) (by decide) rfl (Fx.fr 3 rfl) (da_cons (de_name (pe_var (i := 8) rfl (.inl rfl))) da_nil rfl) rfl rfl) (fun _ => rfl))))) (ds_one (ds_expr (de_mt rfl (PySem.F.slot_list_append) PySem.F.type_list_append mt_append sim_append (de_name (pe_var (i := 5) rfl (.inl rfl))) (da_cons (de_name (pe_var (i := 6) rfl (.inr (.inl rfl)))) da_nil rfl) rfl rfl rfl rfl rfl) rfl)) ds_nil)))) (fun _ => rfl))
    (ds_one (ds_ret (de_callTy call_tuple_of sim_tuple bo_tuple (by decide) (by decide) rfl (Fx.fr 10 rfl) (da_cons (de_name (pe_var (i := 5) rfl (.inl rfl))) da_nil rfl) rfl rfl)))))))
theorem b_rests (Fx : FX preds globs frees fnl K mg) : Binds K (fdOf K ("rests", none)) ["base", "worlds", "lot"] [] := (Fx.d 22 rfl).bindsN fun _ _ _ _ _ _ us hl => match us, hl with | [_, _, _], _ => rfl
theorem sc_kernels : FnScope ["base", "worlds", "lot", "lots", "carried", "found", "sublist", "mask", "place"] ["base", "worlds", "lot"] (defScope (top 33)) := ⟨rfl, rfl, rfl, by decide +kernel, rfl, by decide +kernel, by decide +kernel⟩
theorem ok_kernels (Fx : FX preds globs frees fnl K mg) : FnOk P w K mg base (L2.CX P w) 7 (He.ga K "kernels") (fdOf K ("kernels", none)) ["base", "worlds", "lot"] (spF K (clK clsN K) 3 F_kernels) :=
  fn_hot false (Fx.d 23 rfl) sc_kernels fun H0 mu0 W cdv A outer s H E hr tk =>
    (ds_cons (ds_setV (i := 3) sc_kernels.nd rfl (.inl rfl) (de_call rfl (ok_base_of Fx) (hr.mono (by decide)) rfl (Fx.g 17 rfl) (Fx.d 11 rfl).kp (b_base_of Fx) (fun σ => L2.passAt tk σ) (da_cons (de_name (pe_var (i := 0) rfl (.inl rfl))) (da_cons (de_name (pe_var (i := 1) rfl (.inl rfl))) da_nil rfl) rfl) (by decide) rfl rfl) rfl rfl)
    (ds_cons (ds_setV (i := 4) sc_kernels.nd rfl (.inr rfl) (de_call rfl (ok_carrying Fx) (hr.mono (by decide)) rfl (Fx.g 27 rfl) (Fx.d 21 rfl).kp (b_carrying Fx) (fun σ => L2N.passAt (takesN tk) σ) (da_cons (de_name (pe_var (i := 3) rfl (.inl rfl))) (da_cons (de_name (pe_var (i := 1) rfl (.inl rfl))) (da_cons (de_call rfl (ok_but_not_all Fx) (hr.mono (by decide)) rfl (Fx.g 24 rfl) (Fx.d 18 rfl).kp (b_but_not_all Fx) (fun σ => L2N.passAt (takesN tk) σ) (da_cons (de_name (pe_var (i := 2) rfl (.inl rfl))) (da_cons (de_name (pe_var (i := 1) rfl (.inl rfl))) da_nil rfl) rfl) (by decide) rfl rfl) da_nil rfl) rfl) rfl) (by decide) rfl rfl) rfl rfl)
    (ds_cons (ds_setV (i := 5) sc_kernels.nd rfl (.inl rfl) (de_lst true da_nil) rfl rfl)
    (ds_cons (ds_for (L2.passes_of rfl) rfl (di_any rfl (de_call rfl (ok_lot_list Fx) (hr.mono (by decide)) rfl (Fx.g 15 rfl) (Fx.d 9 rfl).kp (b_lot_list Fx) (fun σ => L2N.passAt (takesN tk) σ) (da_cons (de_callB call_len sim_len bo_len (by decide) (by decide) rfl (Fx.fr 1 rfl) (da_cons (de_name (pe_var (i := 3) rfl (.inl rfl))) da_nil rfl) rfl rfl) (da_cons (de_callB call_len sim_len bo_len (by decide) (by decide) rfl (Fx.fr 1 rfl) (da_cons (de_name (pe_var (i := 3) rfl (.inl rfl))) da_nil rfl) rfl rfl) da_nil rfl) rfl) (by decide) rfl rfl)) (pg_name (i := 6) sc_kernels.nd rfl (.inl rfl) (.inl rfl)) simG_name (ds_cons (ds_setV (i := 7) sc_kernels.nd rfl (.inr rfl) (de_call rfl (ok_mask_of Fx) (hr.mono (by decide)) rfl (Fx.g 25 rfl) (Fx.d 19 rfl).kp (b_mask_of Fx) (fun σ => L2N.passAt (takesN tk) σ) (da_cons (de_name (pe_var (i := 6) rfl (.inl rfl))) da_nil rfl) (by decide) rfl rfl) rfl rfl)
    (ds_one (ds_if (dt_bool (dw_and (dt_tru rfl (de_ix rfl (de_name (pe_var (i := 4) rfl (.inr (.inl rfl)))) (de_name (pe_var (i := 7) rfl (.inr (.inl rfl)))) (fun _ _ => rfl)) (fun _ => rfl)) (dw_and1 (dt_not (dt_tru rfl (de_callB (cr_any rfl) sim_any bo_any (by decide) (by decide) rfl (Fx.fr 4 rfl) (da_cons (de_lc false (own := [("place", 8)]) rfl sc_kernels.nd (di_any rfl (de_name (pe_var (i := 6) rfl (.inl rfl)))) (blkOk_by rfl) (fun _ _ _ _ _ => (pg_name (i := 8) sc_kernels.nd rfl (.inl rfl) (.inr rfl))) simG_name (by decide) (fun _ _ _ _ _ => dts_nil) (fun _ _ _ _ _ => (de_ix rfl (de_name (pe_var (i := 4) rfl (.inr (.inl rfl)))) (de_sub (de_name (pe_var (i := 7) rfl (.inr (.inl rfl)))) (de_shl de_int (de_name (pe_var (i := 8) rfl (.inl rfl))))) (fun _ _ => rfl))) (fun _ => rfl)) da_nil rfl) rfl rfl) (fun _ => rfl)))))) (ds_one (ds_expr (de_mt rfl (PySem.F.slot_list_append) PySem.F.type_list_append mt_append sim_append (de_name (pe_var (i := 5) rfl (.inl rfl))) (da_cons (de_name (pe_var (i := 6) rfl (.inl rfl))) da_nil rfl) rfl rfl rfl rfl rfl) rfl)) ds_nil))) (fun _ => rfl))
    (ds_one (ds_ret (de_callTy call_tuple_of sim_tuple bo_tuple (by decide) (by decide) rfl (Fx.fr 10 rfl) (da_cons (de_name (pe_var (i := 5) rfl (.inl rfl))) da_nil rfl) rfl rfl)))))))
theorem b_kernels (Fx : FX preds globs frees fnl K mg) : Binds K (fdOf K ("kernels", none)) ["base", "worlds", "lot"] [] := (Fx.d 23 rfl).bindsN fun _ _ _ _ _ _ us hl => match us, hl with | [_, _, _], _ => rfl
theorem sc_hitting : FnScope ["lists", "many", "told", "found", "sublist", "at", "one", "least"] ["lists", "many"] (defScope (top 34)) := ⟨rfl, rfl, rfl, by decide +kernel, rfl, by decide +kernel, by decide +kernel⟩
theorem ok_hitting (Fx : FX preds globs frees fnl K mg) : FnOk P w K mg base (L2.CX P w) 5 (He.ga K "hitting") (fdOf K ("hitting", none)) ["lists", "many"] (spF K (clK clsN K) 2 F_hitting) :=
  fn_hot false (Fx.d 24 rfl) sc_hitting fun H0 mu0 W cdv A outer s H E hr tk =>
    (ds_cons (ds_expr (de_call rfl (ok_check_places_many Fx) (hr.mono (by decide)) rfl (Fx.g 22 rfl) (Fx.d 16 rfl).kp (b_check_places_many Fx) (fun σ => L2N.passAt (takesN tk) σ) (da_cons (de_name (pe_var (i := 1) rfl (.inl rfl))) da_nil rfl) (by decide) rfl rfl) rfl)
    (ds_cons (ds_if (dt_not (dt_tru rfl (de_call rfl (ok_is_row Fx) (hr.mono (by decide)) rfl (Fx.g 7 rfl) (Fx.d 1 rfl).kp (b_is_row Fx) (fun σ => L2N.passAt (takesN tk) σ) (da_cons (de_name (pe_var (i := 0) rfl (.inl rfl))) da_nil rfl) (by decide) rfl rfl) (fun _ => rfl))) (ds_one (ds_raise (show clK clsN K 3 (He.ga K "BadOrder") from ⟨_, rfl, rfl⟩) rfl (takesN tk) (pmk5_oexE (excB_ok (Fx.p 5 rfl)).oex (excB_ok (Fx.p 5 rfl)).ini (excB_ok (Fx.p 5 rfl)).tI (init_BadOrder Fx) (hr.mono (by decide)) (bI_BadOrder Fx) pass0 rfl (Fx.g 3 rfl) (de_neg de_int) (by decide) rfl))) ds_nil)
    (ds_cons (ds_setV (i := 2) sc_hitting.nd rfl (.inl rfl) (de_lst true da_nil) rfl rfl)
    (ds_cons (ds_for (L2.passes_of rfl) rfl (di_enum rfl rfl (Fx.fr 12 rfl) (da_cons (de_name (pe_var (i := 0) rfl (.inl rfl))) da_nil rfl) rfl) (pg_tup rfl (pgs_cons (pg_name (i := 5) sc_hitting.nd rfl (.inl rfl) (.inl rfl)) (pgs_cons (pg_name (i := 4) sc_hitting.nd rfl (.inr rfl) (.inl rfl)) pgs_nil rfl) rfl) rfl rfl) simG_tup (ds_one (ds_tryOnlyX rfl rfl rfl ⟨rfl, by decide, .inl (Fx.g 3 rfl)⟩ (catB_ok rfl rfl (Fx.p 6 rfl)) (fun _ => PassesOwnAt.leaving) tk (fun W pn xe tkB hpB => (ds_one (ds_expr (de_mt rfl (PySem.F.slot_list_append) PySem.F.type_list_append mt_append sim_append (de_name (pe_var (i := 2) rfl (.inl rfl))) (da_cons (de_call rfl (ok_places_of Fx) (hr.mono (by decide)) rfl (Fx.g 18 rfl) (Fx.d 12 rfl).kp (b_places_of Fx) (fun σ => L2N.passAt tkB σ) (da_cons (de_name (pe_var (i := 4) rfl (.inr (.inl rfl)))) (da_cons (de_name (pe_var (i := 1) rfl (.inl rfl))) da_nil rfl) rfl) (by decide) rfl rfl) da_nil rfl) rfl rfl rfl rfl rfl) rfl))) (fun a oe cls d pn hz hf tkS hot => (ds_one (ds_raiseHN (show clK clsN K 3 (He.ga K "BadOrder") from ⟨_, rfl, rfl⟩) hot tkS (pmk5_oexEH (excB_ok (Fx.p 5 rfl)).oex (excB_ok (Fx.p 5 rfl)).ini (excB_ok (Fx.p 5 rfl)).tI (initH_BadOrder Fx) (L2H.roomH_mark (hr.mono (by decide)) _) hot (bI_BadOrder Fx) pass0 rfl (Fx.g 3 rfl) (de_name (pe_var (i := 5) rfl (.inl rfl))) (by decide) rfl)))))) (fun _ => rfl))
    (ds_cons (ds_setV (i := 3) sc_hitting.nd rfl (.inl rfl) (de_lst true da_nil) rfl rfl)
    (ds_cons (ds_for (L2.passes_of rfl) rfl (di_any rfl (de_call rfl (ok_lot_list Fx) (hr.mono (by decide)) rfl (Fx.g 15 rfl) (Fx.d 9 rfl).kp (b_lot_list Fx) (fun σ => L2N.passAt (takesN tk) σ) (da_cons (de_name (pe_var (i := 1) rfl (.inl rfl))) (da_cons (de_name (pe_var (i := 1) rfl (.inl rfl))) da_nil rfl) rfl) (by decide) rfl rfl)) (pg_name (i := 4) sc_hitting.nd rfl (.inr rfl) (.inl rfl)) simG_name (ds_one (ds_if (dt_bool (dw_and (dt_tru rfl (de_callB (cr_all rfl) sim_all bo_all (by decide) (by decide) rfl (Fx.fr 3 rfl) (da_cons (de_lc false (own := [("one", 6)]) rfl sc_hitting.nd (di_any rfl (de_name (pe_var (i := 2) rfl (.inl rfl)))) (blkOk_by rfl) (fun _ _ _ _ _ => (pg_name (i := 6) sc_hitting.nd rfl (.inl rfl) (.inr rfl))) simG_name (by decide) (fun _ _ _ _ _ => dts_nil) (fun _ _ _ _ _ => (de_call rfl (ok_meets Fx) (hr.mono (by decide)) rfl (Fx.g 14 rfl) (Fx.d 8 rfl).kp (b_meets Fx) pnoN (da_cons (de_name (pe_var (i := 4) rfl (.inr (.inl rfl)))) (da_cons (de_name (pe_var (i := 6) rfl (.inl rfl))) da_nil rfl) rfl) (by decide) rfl rfl)) (fun _ => rfl)) da_nil rfl) rfl rfl) (fun _ => rfl)) (dw_and1 (dt_not (dt_tru rfl (de_callB (cr_any rfl) sim_any bo_any (by decide) (by decide) rfl (Fx.fr 4 rfl) (da_cons (de_lc false (own := [("least", 7)]) rfl sc_hitting.nd (di_any rfl (de_name (pe_var (i := 3) rfl (.inl rfl)))) (blkOk_by rfl) (fun _ _ _ _ _ => (pg_name (i := 7) sc_hitting.nd rfl (.inl rfl) (.inr rfl))) simG_name (by decide) (fun _ _ _ _ _ => dts_nil) (fun _ _ _ _ _ => (de_call rfl (ok_inside Fx) (hr.mono (by decide)) rfl (Fx.g 13 rfl) (Fx.d 7 rfl).kp (b_inside Fx) pnoN (da_cons (de_name (pe_var (i := 7) rfl (.inl rfl))) (da_cons (de_name (pe_var (i := 4) rfl (.inr (.inl rfl)))) da_nil rfl) rfl) (by decide) rfl rfl)) (fun _ => rfl)) da_nil rfl) rfl rfl) (fun _ => rfl)))))) (ds_one (ds_expr (de_mt rfl (PySem.F.slot_list_append) PySem.F.type_list_append mt_append sim_append (de_name (pe_var (i := 3) rfl (.inl rfl))) (da_cons (de_name (pe_var (i := 4) rfl (.inr (.inl rfl)))) da_nil rfl) rfl rfl rfl rfl rfl) rfl)) ds_nil)) (fun _ => rfl))
    (ds_one (ds_ret (de_callTy call_tuple_of sim_tuple bo_tuple (by decide) (by decide) rfl (Fx.fr 10 rfl) (da_cons (de_name (pe_var (i := 3) rfl (.inl rfl))) da_nil rfl) rfl rfl)))))))))
theorem b_hitting (Fx : FX preds globs frees fnl K mg) : Binds K (fdOf K ("hitting", none)) ["lists", "many"] [] := (Fx.d 24 rfl).bindsN fun _ _ _ _ _ _ us hl => match us, hl with | [_, _], _ => rfl
theorem sc_left_out : FnScope ["sublist", "many", "told", "place"] ["sublist", "many"] (defScope (top 35)) := ⟨rfl, rfl, rfl, by decide +kernel, rfl, by decide +kernel, by decide +kernel⟩
theorem ok_left_out (Fx : FX preds globs frees fnl K mg) : FnOk P w K mg base (L2N.CX P w) 5 (He.ga K "left_out") (fdOf K ("left_out", none)) ["sublist", "many"] (spF K (clK clsN K) 2 F_left_out) :=
  fn_cold false (Fx.d 25 rfl) sc_left_out fun H0 mu0 W cdv A outer s H E hr tk =>
    (ds_cons (ds_expr (de_call rfl (ok_check_places_many Fx) (hr.mono (by decide)) rfl (Fx.g 22 rfl) (Fx.d 16 rfl).kp (b_check_places_many Fx) (fun σ => L2N.passAt tk σ) (da_cons (de_name (pe_var (i := 1) rfl (.inl rfl))) da_nil rfl) (by decide) rfl rfl) rfl)
    (ds_cons (ds_setV (i := 2) sc_left_out.nd rfl (.inr rfl) (de_call rfl (ok_places_of Fx) (hr.mono (by decide)) rfl (Fx.g 18 rfl) (Fx.d 12 rfl).kp (b_places_of Fx) (fun σ => L2N.passAt tk σ) (da_cons (de_name (pe_var (i := 0) rfl (.inl rfl))) (da_cons (de_name (pe_var (i := 1) rfl (.inl rfl))) da_nil rfl) rfl) (by decide) rfl rfl) rfl rfl)
    (ds_one (ds_ret (de_callTy call_tuple_of sim_tuple bo_tuple (by decide) (by decide) rfl (Fx.fr 10 rfl) (da_cons (de_lc false (own := [("place", 3)]) rfl sc_left_out.nd (di_range1 rfl (Fx.fr 11 rfl) (da_cons (de_name (pe_var (i := 1) rfl (.inl rfl))) da_nil rfl) rfl) (blkOk_by rfl) (fun _ _ _ _ _ => (pg_name (i := 3) sc_left_out.nd rfl (.inl rfl) (.inr rfl))) simG_name (by decide) (fun _ _ _ _ _ => (dts_one (dt_cmp (op_notInT (hu65 hr)) sim_in (de_name (pe_var (i := 3) rfl (.inl rfl))) (de_name (pe_var (i := 2) rfl (.inr (.inl rfl)))) rfl))) (fun _ _ _ _ _ => (de_name (pe_var (i := 3) rfl (.inl rfl)))) (fun _ => rfl)) da_nil rfl) rfl rfl)))))
theorem b_left_out (Fx : FX preds globs frees fnl K mg) : Binds K (fdOf K ("left_out", none)) ["sublist", "many"] [] := (Fx.d 25 rfl).bindsN fun _ _ _ _ _ _ us hl => match us, hl with | [_, _], _ => rfl
theorem sc_in_every_rest : FnScope ["base", "worlds", "lot", "found", "place", "sublist"] ["base", "worlds", "lot"] (defScope (top 36)) := ⟨rfl, rfl, rfl, by decide +kernel, rfl, by decide +kernel, by decide +kernel⟩
theorem ok_in_every_rest (Fx : FX preds globs frees fnl K mg) : FnOk P w K mg base (L2.CX P w) 8 (He.ga K "in_every_rest") (fdOf K ("in_every_rest", none)) ["base", "worlds", "lot"] (spF K (clK clsN K) 3 F_in_every_rest) :=
  fn_hot false (Fx.d 26 rfl) sc_in_every_rest fun H0 mu0 W cdv A outer s H E hr tk =>
    (ds_cons (ds_setV (i := 3) sc_in_every_rest.nd rfl (.inr rfl) (de_call rfl (ok_rests Fx) (hr.mono (by decide)) rfl (Fx.g 28 rfl) (Fx.d 22 rfl).kp (b_rests Fx) (fun σ => L2.passAt tk σ) (da_cons (de_name (pe_var (i := 0) rfl (.inl rfl))) (da_cons (de_name (pe_var (i := 1) rfl (.inl rfl))) (da_cons (de_name (pe_var (i := 2) rfl (.inl rfl))) da_nil rfl) rfl) rfl) (by decide) rfl rfl) rfl rfl)
    (ds_one (ds_ret (de_callTy call_tuple_of sim_tuple bo_tuple (by decide) (by decide) rfl (Fx.fr 10 rfl) (da_cons (de_lc false (own := [("place", 4)]) rfl sc_in_every_rest.nd (di_range1 rfl (Fx.fr 11 rfl) (da_cons (de_callB call_len sim_len bo_len (by decide) (by decide) rfl (Fx.fr 1 rfl) (da_cons (de_name (pe_var (i := 0) rfl (.inl rfl))) da_nil rfl) rfl rfl) da_nil rfl) rfl) (blkOk_by rfl) (fun _ _ _ _ _ => (pg_name (i := 4) sc_in_every_rest.nd rfl (.inr rfl) (.inl rfl))) simG_name (by decide) (fun _ _ _ _ _ => (dts_one (dt_tru rfl (de_callB (cr_all rfl) sim_all bo_all (by decide) (by decide) rfl (Fx.fr 3 rfl) (da_cons (de_lc false (own := [("sublist", 5)]) rfl sc_in_every_rest.nd (di_any rfl (de_name (pe_var (i := 3) rfl (.inr (.inl rfl))))) (blkOk_by rfl) (fun _ _ _ _ _ => (pg_name (i := 5) sc_in_every_rest.nd rfl (.inl rfl) (.inr rfl))) simG_name (by decide) (fun _ _ _ _ _ => dts_nil) (fun _ _ _ _ _ => (de_cmp (op_inT (hu65 hr)) sim_in (de_name (pe_var (i := 4) rfl (.inr (.inl rfl)))) (de_name (pe_var (i := 5) rfl (.inl rfl))) rfl)) (fun _ => rfl)) da_nil rfl) rfl rfl) (fun _ => rfl)))) (fun _ _ _ _ _ => (de_name (pe_var (i := 4) rfl (.inr (.inl rfl))))) (fun _ => rfl)) da_nil rfl) rfl rfl))))
theorem b_in_every_rest (Fx : FX preds globs frees fnl K mg) : Binds K (fdOf K ("in_every_rest", none)) ["base", "worlds", "lot"] [] := (Fx.d 26 rfl).bindsN fun _ _ _ _ _ _ us hl => match us, hl with | [_, _, _], _ => rfl
theorem sc_in_no_kernel : FnScope ["base", "worlds", "lot", "found", "place", "sublist"] ["base", "worlds", "lot"] (defScope (top 37)) := ⟨rfl, rfl, rfl, by decide +kernel, rfl, by decide +kernel, by decide +kernel⟩
theorem ok_in_no_kernel (Fx : FX preds globs frees fnl K mg) : FnOk P w K mg base (L2.CX P w) 8 (He.ga K "in_no_kernel") (fdOf K ("in_no_kernel", none)) ["base", "worlds", "lot"] (spF K (clK clsN K) 3 F_in_no_kernel) :=
  fn_hot false (Fx.d 27 rfl) sc_in_no_kernel fun H0 mu0 W cdv A outer s H E hr tk =>
    (ds_cons (ds_setV (i := 3) sc_in_no_kernel.nd rfl (.inr rfl) (de_call rfl (ok_kernels Fx) (hr.mono (by decide)) rfl (Fx.g 29 rfl) (Fx.d 23 rfl).kp (b_kernels Fx) (fun σ => L2.passAt tk σ) (da_cons (de_name (pe_var (i := 0) rfl (.inl rfl))) (da_cons (de_name (pe_var (i := 1) rfl (.inl rfl))) (da_cons (de_name (pe_var (i := 2) rfl (.inl rfl))) da_nil rfl) rfl) rfl) (by decide) rfl rfl) rfl rfl)
    (ds_one (ds_ret (de_callTy call_tuple_of sim_tuple bo_tuple (by decide) (by decide) rfl (Fx.fr 10 rfl) (da_cons (de_lc false (own := [("place", 4)]) rfl sc_in_no_kernel.nd (di_range1 rfl (Fx.fr 11 rfl) (da_cons (de_callB call_len sim_len bo_len (by decide) (by decide) rfl (Fx.fr 1 rfl) (da_cons (de_name (pe_var (i := 0) rfl (.inl rfl))) da_nil rfl) rfl rfl) da_nil rfl) rfl) (blkOk_by rfl) (fun _ _ _ _ _ => (pg_name (i := 4) sc_in_no_kernel.nd rfl (.inr rfl) (.inl rfl))) simG_name (by decide) (fun _ _ _ _ _ => (dts_one (dt_not (dt_tru rfl (de_callB (cr_any rfl) sim_any bo_any (by decide) (by decide) rfl (Fx.fr 4 rfl) (da_cons (de_lc false (own := [("sublist", 5)]) rfl sc_in_no_kernel.nd (di_any rfl (de_name (pe_var (i := 3) rfl (.inr (.inl rfl))))) (blkOk_by rfl) (fun _ _ _ _ _ => (pg_name (i := 5) sc_in_no_kernel.nd rfl (.inl rfl) (.inr rfl))) simG_name (by decide) (fun _ _ _ _ _ => dts_nil) (fun _ _ _ _ _ => (de_cmp (op_inT (hu65 hr)) sim_in (de_name (pe_var (i := 4) rfl (.inr (.inl rfl)))) (de_name (pe_var (i := 5) rfl (.inl rfl))) rfl)) (fun _ => rfl)) da_nil rfl) rfl rfl) (fun _ => rfl))))) (fun _ _ _ _ _ => (de_name (pe_var (i := 4) rfl (.inr (.inl rfl))))) (fun _ => rfl)) da_nil rfl) rfl rfl))))
theorem b_in_no_kernel (Fx : FX preds globs frees fnl K mg) : Binds K (fdOf K ("in_no_kernel", none)) ["base", "worlds", "lot"] [] := (Fx.d 27 rfl).bindsN fun _ _ _ _ _ _ us hl => match us, hl with | [_, _, _], _ => rfl
theorem sc_is_rest : FnScope ["base", "worlds", "lot", "sublist", "found"] ["base", "worlds", "lot", "sublist"] (defScope (top 38)) := ⟨rfl, rfl, rfl, by decide +kernel, rfl, by decide +kernel, by decide +kernel⟩
theorem ok_is_rest (Fx : FX preds globs frees fnl K mg) : FnOk P w K mg base (L2.CX P w) 8 (He.ga K "is_rest") (fdOf K ("is_rest", none)) ["base", "worlds", "lot", "sublist"] (spF K (clK clsN K) 4 F_is_rest) :=
  fn_hot false (Fx.d 28 rfl) sc_is_rest fun H0 mu0 W cdv A outer s H E hr tk =>
    (ds_cons (ds_setV (i := 4) sc_is_rest.nd rfl (.inl rfl) (de_call rfl (ok_rests Fx) (hr.mono (by decide)) rfl (Fx.g 28 rfl) (Fx.d 22 rfl).kp (b_rests Fx) (fun σ => L2.passAt tk σ) (da_cons (de_name (pe_var (i := 0) rfl (.inl rfl))) (da_cons (de_name (pe_var (i := 1) rfl (.inl rfl))) (da_cons (de_name (pe_var (i := 2) rfl (.inl rfl))) da_nil rfl) rfl) rfl) (by decide) rfl rfl) rfl rfl)
    (ds_one (ds_ret (de_cmp (op_inT (hu65 hr)) sim_in (de_call rfl (ok_places_of Fx) (hr.mono (by decide)) rfl (Fx.g 18 rfl) (Fx.d 12 rfl).kp (b_places_of Fx) (fun σ => L2N.passAt (takesN tk) σ) (da_cons (de_name (pe_var (i := 3) rfl (.inl rfl))) (da_cons (de_callB call_len sim_len bo_len (by decide) (by decide) rfl (Fx.fr 1 rfl) (da_cons (de_name (pe_var (i := 0) rfl (.inl rfl))) da_nil rfl) rfl rfl) da_nil rfl) rfl) (by decide) rfl rfl) (de_name (pe_var (i := 4) rfl (.inl rfl))) rfl))))
theorem b_is_rest (Fx : FX preds globs frees fnl K mg) : Binds K (fdOf K ("is_rest", none)) ["base", "worlds", "lot", "sublist"] [] := (Fx.d 28 rfl).bindsN fun _ _ _ _ _ _ us hl => match us, hl with | [_, _, _, _], _ => rfl
theorem sc__law_draws : FnScope ["_law_script", "_law_draws_here", "_law_place", "_law_cell", "_law_turn", "_law_seed"] ["_law_script"] (defScope (top 40)) := ⟨rfl, rfl, rfl, by decide +kernel, rfl, by decide +kernel, by decide +kernel⟩
theorem ok__law_draws (Fx : FX preds globs frees fnl K mg) : FnOk P w K mg base (L2N.CX P w) 1 (He.ga K "_law_draws") (fdOf K ("_law_draws", none)) ["_law_script"] (spF K (clK clsN K) 1 F__law_draws) :=
  fn_cold true (Fx.d 29 rfl) sc__law_draws fun H0 mu0 W cdv A outer s H E hr tk =>
    (ds_cons (ds_setV (i := 1) sc__law_draws.nd rfl (.inl rfl) (de_lst true da_nil) rfl rfl)
    (ds_cons (ds_for (L2.passes_of rfl) rfl (di_range1 rfl (Fx.fr 11 rfl) (da_cons (de_callB (call_min2 rfl) sim_II bo_min (by decide) (by decide) rfl (Fx.fr 5 rfl) (da_cons (de_callB call_len sim_len bo_len (by decide) (by decide) rfl (Fx.fr 1 rfl) (da_cons (de_name (pe_var (i := 0) rfl (.inl rfl))) da_nil rfl) rfl rfl) (da_cons de_int da_nil rfl) rfl) rfl rfl) da_nil rfl) rfl) (pg_name (i := 2) sc__law_draws.nd rfl (.inl rfl) (.inl rfl)) simG_name (ds_cons (ds_setV (i := 3) sc__law_draws.nd rfl (.inl rfl) (de_callTy call_int1 sim_int bo_int (by decide) (by decide) rfl (Fx.fr 7 rfl) (da_cons (de_ix rfl (de_name (pe_var (i := 0) rfl (.inl rfl))) (de_name (pe_var (i := 2) rfl (.inl rfl))) (fun _ _ => rfl)) da_nil rfl) rfl rfl) rfl rfl)
    (ds_cons (ds_if (dt_cmp op_lt (sim_I0 fun _ _ _ _ => .bl _) (de_name (pe_var (i := 3) rfl (.inl rfl))) de_int (nomark _)) (ds_one (ds_setV (i := 3) sc__law_draws.nd rfl (.inl rfl) (de_sub de_int (de_name (pe_var (i := 3) rfl (.inl rfl)))) rfl rfl)) ds_nil)
    (ds_one (ds_if (dt_cmp op_ge (sim_I0 fun _ _ _ _ => .bl _) (de_name (pe_var (i := 3) rfl (.inl rfl))) (de_pow de_int de_int) (nomark _)) (ds_one (ds_for (L2.passes_of rfl) rfl (di_range1 rfl (Fx.fr 11 rfl) (da_cons de_int da_nil rfl) rfl) (pg_name (i := 4) sc__law_draws.nd rfl (.inl rfl) (.inl rfl)) simG_name (ds_one (ds_if (dt_cmp op_gt (sim_I0 fun _ _ _ _ => .bl _) (de_name (pe_var (i := 3) rfl (.inl rfl))) de_int (nomark _)) (ds_cons (ds_expr (de_mt rfl (PySem.F.slot_list_append) PySem.F.type_list_append mt_append sim_append (de_name (pe_var (i := 1) rfl (.inl rfl))) (da_cons (de_mod (de_callTy call_int1 sim_int bo_int (by decide) (by decide) rfl (Fx.fr 7 rfl) (da_cons (de_name (pe_var (i := 3) rfl (.inl rfl))) da_nil rfl) rfl rfl) de_int) da_nil rfl) rfl rfl rfl rfl rfl) rfl)
    (ds_one (ds_setV (i := 3) sc__law_draws.nd rfl (.inl rfl) (de_div (de_name (pe_var (i := 3) rfl (.inl rfl))) de_int) rfl rfl))) ds_nil)) (fun _ => rfl))) (ds_cons (ds_setV (i := 5) sc__law_draws.nd rfl (.inl rfl) (de_mod (de_callTy call_int1 sim_int bo_int (by decide) (by decide) rfl (Fx.fr 7 rfl) (da_cons (de_add rfl (de_add rfl (de_mul (de_name (pe_var (i := 3) rfl (.inl rfl))) de_int) (de_mul (de_name (pe_var (i := 2) rfl (.inl rfl))) de_int)) de_int) da_nil rfl) rfl rfl) de_int) rfl rfl)
    (ds_one (ds_for (L2.passes_of rfl) rfl (di_range1 rfl (Fx.fr 11 rfl) (da_cons de_int da_nil rfl) rfl) (pg_name (i := 4) sc__law_draws.nd rfl (.inl rfl) (.inl rfl)) simG_name (ds_cons (ds_setV (i := 5) sc__law_draws.nd rfl (.inl rfl) (de_mod (de_callTy call_int1 sim_int bo_int (by decide) (by decide) rfl (Fx.fr 7 rfl) (da_cons (de_add rfl (de_add rfl (de_add rfl (de_mul (de_name (pe_var (i := 5) rfl (.inl rfl))) (de_name (pe_var (i := 5) rfl (.inl rfl)))) (de_mul (de_name (pe_var (i := 4) rfl (.inl rfl))) de_int)) (de_mul (de_name (pe_var (i := 2) rfl (.inl rfl))) de_int)) de_int) da_nil rfl) rfl rfl) de_int) rfl rfl)
    (ds_one (ds_expr (de_mt rfl (PySem.F.slot_list_append) PySem.F.type_list_append mt_append sim_append (de_name (pe_var (i := 1) rfl (.inl rfl))) (da_cons (de_name (pe_var (i := 5) rfl (.inl rfl))) da_nil rfl) rfl rfl rfl rfl rfl) rfl))) (fun _ => rfl)))))))) (fun _ => rfl))
    (ds_one (ds_ret (de_rev true rfl (de_name (pe_var (i := 1) rfl (.inl rfl))))))))
theorem b__law_draws (Fx : FX preds globs frees fnl K mg) : Binds K (fdOf K ("_law_draws", none)) ["_law_script"] [] := (Fx.d 29 rfl).bindsN fun _ _ _ _ _ _ us hl => match us, hl with | [_], _ => rfl
theorem sc__law_take : FnScope ["_law_draws_here", "_law_bound"] ["_law_draws_here", "_law_bound"] (defScope (top 41)) := ⟨rfl, rfl, rfl, by decide +kernel, rfl, by decide +kernel, by decide +kernel⟩
theorem ok__law_take (Fx : FX preds globs frees fnl K mg) : FnOk P w K mg base (L2N.CX P w) 1 (He.ga K "_law_take") (fdOf K ("_law_take", none)) ["_law_draws_here", "_law_bound"] (spF K (clK clsN K) 2 F__law_take) :=
  fn_cold false (Fx.d 30 rfl) sc__law_take fun H0 mu0 W cdv A outer s H E hr tk =>
    (ds_cons (ds_if (dt_cmp (op_eqD (hu64 hr)) sim_eq (de_callB call_len sim_len bo_len (by decide) (by decide) rfl (Fx.fr 1 rfl) (da_cons (de_name (pe_var (i := 0) rfl (.inl rfl))) da_nil rfl) rfl rfl) de_int (nomark _)) (ds_one (ds_ret de_int)) ds_nil)
    (ds_one (ds_ret (de_mod (de_callTy call_int1 sim_int bo_int (by decide) (by decide) rfl (Fx.fr 7 rfl) (da_cons (de_mt0 rfl (PySem.F.slot_list_pop) PySem.F.type_list_pop mt_pop sim_pop (de_name (pe_var (i := 0) rfl (.inl rfl))) rfl rfl) da_nil rfl) rfl rfl) (de_name (pe_var (i := 1) rfl (.inl rfl)))))))
theorem b__law_take (Fx : FX preds globs frees fnl K mg) : Binds K (fdOf K ("_law_take", none)) ["_law_draws_here", "_law_bound"] [] := (Fx.d 30 rfl).bindsN fun _ _ _ _ _ _ us hl => match us, hl with | [_, _], _ => rfl
theorem sc__law_int : FnScope ["_law_value"] ["_law_value"] (defScope (top 42)) := ⟨rfl, rfl, rfl, by decide +kernel, rfl, by decide +kernel, by decide +kernel⟩
theorem ok__law_int (Fx : FX preds globs frees fnl K mg) : FnOk P w K mg base (L2N.CX P w) 1 (He.ga K "_law_int") (fdOf K ("_law_int", none)) ["_law_value"] (spF K (clK clsN K) 1 F__law_int) :=
  fn_cold false (Fx.d 31 rfl) sc__law_int fun H0 mu0 W cdv A outer s H E hr tk =>
    (ds_one (ds_ret (de_and (de_callB call_isi sim_isi bo_isinstance (by decide) (by decide) rfl (Fx.fr 0 rfl) (da_cons (de_name (pe_var (i := 0) rfl (.inl rfl))) (da_cons (de_ty rfl (Fx.fr 7 rfl) bo_int (by decide) (by decide)) da_nil rfl) rfl) rfl rfl) (de_one (de_not (de_callB call_isi sim_isi bo_isinstance (by decide) (by decide) rfl (Fx.fr 0 rfl) (da_cons (de_name (pe_var (i := 0) rfl (.inl rfl))) (da_cons (de_ty rfl (Fx.fr 8 rfl) bo_bool (by decide) (by decide)) da_nil rfl) rfl) rfl rfl))))))
theorem b__law_int (Fx : FX preds globs frees fnl K mg) : Binds K (fdOf K ("_law_int", none)) ["_law_value"] [] := (Fx.d 31 rfl).bindsN fun _ _ _ _ _ _ us hl => match us, hl with | [_], _ => rfl
theorem sc__law_lot_kind : FnScope ["_law_value", "_law_worlds", "_law_last", "_law_world"] ["_law_value", "_law_worlds"] (defScope (top 43)) := ⟨rfl, rfl, rfl, by decide +kernel, rfl, by decide +kernel, by decide +kernel⟩
theorem ok__law_lot_kind (Fx : FX preds globs frees fnl K mg) : FnOk P w K mg base (L2N.CX P w) 2 (He.ga K "_law_lot_kind") (fdOf K ("_law_lot_kind", none)) ["_law_value", "_law_worlds"] (spF K (clK clsN K) 2 F__law_lot_kind) :=
  fn_cold false (Fx.d 32 rfl) sc__law_lot_kind fun H0 mu0 W cdv A outer s H E hr tk =>
    (ds_cons (ds_if (dt_not (dt_tru rfl (de_callB call_isi sim_isi bo_isinstance (by decide) (by decide) rfl (Fx.fr 0 rfl) (da_cons (de_name (pe_var (i := 0) rfl (.inl rfl))) (da_cons (de_ty rfl (Fx.fr 10 rfl) bo_tuple (by decide) (by decide)) da_nil rfl) rfl) rfl rfl) (fun _ => rfl))) (ds_one (ds_ret de_bl)) ds_nil)
    (ds_cons (ds_setV (i := 2) sc__law_lot_kind.nd rfl (.inl rfl) (de_neg de_int) rfl rfl)
    (ds_cons (ds_for (L2.passes_of rfl) rfl (di_any rfl (de_name (pe_var (i := 0) rfl (.inl rfl)))) (pg_name (i := 3) sc__law_lot_kind.nd rfl (.inl rfl) (.inl rfl)) simG_name (ds_cons (ds_if (dt_bool (dw_or (dt_not (dt_tru rfl (de_call rfl (ok__law_int Fx) (hr.mono (by decide)) rfl (Fx.g 37 rfl) (Fx.d 31 rfl).kp (b__law_int Fx) (fun σ => L2N.passAt tk σ) (da_cons (de_name (pe_var (i := 3) rfl (.inl rfl))) da_nil rfl) (by decide) rfl rfl) (fun _ => rfl))) (dw_or (dt_cmp op_le (sim_I0 fun _ _ _ _ => .bl _) (de_name (pe_var (i := 3) rfl (.inl rfl))) (de_name (pe_var (i := 2) rfl (.inl rfl))) (nomark _)) (dw_or1 (dt_cmp op_ge (sim_I0 fun _ _ _ _ => .bl _) (de_name (pe_var (i := 3) rfl (.inl rfl))) (de_name (pe_var (i := 1) rfl (.inl rfl))) (nomark _)))))) (ds_one (ds_ret de_bl)) ds_nil)
    (ds_one (ds_setV (i := 2) sc__law_lot_kind.nd rfl (.inl rfl) (de_name (pe_var (i := 3) rfl (.inl rfl))) rfl rfl))) (fun _ => rfl))
    (ds_one (ds_ret de_bl)))))
theorem b__law_lot_kind (Fx : FX preds globs frees fnl K mg) : Binds K (fdOf K ("_law_lot_kind", none)) ["_law_value", "_law_worlds"] [] := (Fx.d 32 rfl).bindsN fun _ _ _ _ _ _ us hl => match us, hl with | [_, _], _ => rfl
theorem sc__law_lots : FnScope ["_law_worlds", "_law_lots_here", "_law_world", "_law_order", "_law_size", "_law_lot_here"] ["_law_worlds"] (defScope (top 44)) := ⟨rfl, rfl, rfl, by decide +kernel, rfl, by decide +kernel, by decide +kernel⟩
theorem ok__law_lots (Fx : FX preds globs frees fnl K mg) : FnOk P w K mg base (L2N.CX P w) 1 (He.ga K "_law_lots") (fdOf K ("_law_lots", none)) ["_law_worlds"] (spF K (clK clsN K) 1 F__law_lots) :=
  fn_cold false (Fx.d 33 rfl) sc__law_lots fun H0 mu0 W cdv A outer s H E hr tk =>
    (ds_cons (ds_setV (i := 1) sc__law_lots.nd rfl (.inl rfl) (de_lst false (da_cons (de_tup da_nil) da_nil rfl)) rfl rfl)
    (ds_cons (ds_for (L2.passes_of rfl) rfl (di_range1 rfl (Fx.fr 11 rfl) (da_cons (de_name (pe_var (i := 0) rfl (.inl rfl))) da_nil rfl) rfl) (pg_name (i := 2) sc__law_lots.nd rfl (.inr rfl) (.inl rfl)) simG_name (ds_one (ds_setV (i := 1) sc__law_lots.nd rfl (.inl rfl) (de_add rfl (de_name (pe_var (i := 1) rfl (.inl rfl))) (de_lc false (own := [("_law_lot_here", 5)]) rfl sc__law_lots.nd (di_any rfl (de_name (pe_var (i := 1) rfl (.inl rfl)))) (blkOk_by rfl) (fun _ _ _ _ _ => (pg_name (i := 5) sc__law_lots.nd rfl (.inl rfl) (.inr rfl))) simG_name (by decide) (fun _ _ _ _ _ => dts_nil) (fun _ _ _ _ _ => (de_add rfl (de_name (pe_var (i := 5) rfl (.inl rfl))) (de_tup (da_cons (de_name (pe_var (i := 2) rfl (.inr (.inl rfl)))) da_nil rfl)))) (fun _ => rfl))) rfl rfl)) (fun _ => rfl))
    (ds_cons (ds_setV (i := 3) sc__law_lots.nd rfl (.inl rfl) (de_lst false da_nil) rfl rfl)
    (ds_cons (ds_for (L2.passes_of rfl) rfl (di_range1 rfl (Fx.fr 11 rfl) (da_cons (de_add rfl (de_name (pe_var (i := 0) rfl (.inl rfl))) de_int) da_nil rfl) rfl) (pg_name (i := 4) sc__law_lots.nd rfl (.inr rfl) (.inl rfl)) simG_name (ds_one (ds_setV (i := 3) sc__law_lots.nd rfl (.inl rfl) (de_add rfl (de_name (pe_var (i := 3) rfl (.inl rfl))) (de_callB cr_sortTs sim_sortedT bo_sorted (by decide) (by decide) rfl (Fx.fr 6 rfl) (da_cons (de_lc false (own := [("_law_lot_here", 5)]) rfl sc__law_lots.nd (di_any rfl (de_name (pe_var (i := 1) rfl (.inl rfl)))) (blkOk_by rfl) (fun _ _ _ _ _ => (pg_name (i := 5) sc__law_lots.nd rfl (.inl rfl) (.inr rfl))) simG_name (by decide) (fun _ _ _ _ _ => (dts_one (dt_cmp (op_eqD (hu64 hr)) sim_eq (de_callB call_len sim_len bo_len (by decide) (by decide) rfl (Fx.fr 1 rfl) (da_cons (de_name (pe_var (i := 5) rfl (.inl rfl))) da_nil rfl) rfl rfl) (de_name (pe_var (i := 4) rfl (.inr (.inl rfl)))) (nomark _)))) (fun _ _ _ _ _ => (de_name (pe_var (i := 5) rfl (.inl rfl)))) (fun _ => rfl)) da_nil rfl) rfl rfl)) rfl rfl)) (fun _ => rfl))
    (ds_one (ds_ret (de_name (pe_var (i := 3) rfl (.inl rfl)))))))))
theorem b__law_lots (Fx : FX preds globs frees fnl K mg) : Binds K (fdOf K ("_law_lots", none)) ["_law_worlds"] [] := (Fx.d 33 rfl).bindsN fun _ _ _ _ _ _ us hl => match us, hl with | [_], _ => rfl
theorem sc__law_lot : FnScope ["_law_draws_here", "_law_worlds", "_law_world"] ["_law_draws_here", "_law_worlds"] (defScope (top 45)) := ⟨rfl, rfl, rfl, by decide +kernel, rfl, by decide +kernel, by decide +kernel⟩
theorem ok__law_lot (Fx : FX preds globs frees fnl K mg) : FnOk P w K mg base (L2N.CX P w) 2 (He.ga K "_law_lot") (fdOf K ("_law_lot", none)) ["_law_draws_here", "_law_worlds"] (spF K (clK clsN K) 2 F__law_lot) :=
  fn_cold false (Fx.d 34 rfl) sc__law_lot fun H0 mu0 W cdv A outer s H E hr tk =>
    (ds_one (ds_ret (de_callTy call_tuple_of sim_tuple bo_tuple (by decide) (by decide) rfl (Fx.fr 10 rfl) (da_cons (de_lc false (own := [("_law_world", 2)]) rfl sc__law_lot.nd (di_range1 rfl (Fx.fr 11 rfl) (da_cons (de_name (pe_var (i := 1) rfl (.inl rfl))) da_nil rfl) rfl) (blkOk_by rfl) (fun _ _ _ _ _ => (pg_name (i := 2) sc__law_lot.nd rfl (.inl rfl) (.inr rfl))) simG_name (by decide) (fun _ _ _ _ _ => (dts_one (dt_cmp (op_eqD (hu64 hr)) sim_eq (de_call rfl (ok__law_take Fx) (hr.mono (by decide)) rfl (Fx.g 36 rfl) (Fx.d 30 rfl).kp (b__law_take Fx) pnoN (da_cons (de_name (pe_var (i := 0) rfl (.inr (.inl rfl)))) (da_cons de_int da_nil rfl) rfl) (by decide) rfl rfl) de_int (nomark _)))) (fun _ _ _ _ _ => (de_name (pe_var (i := 2) rfl (.inl rfl)))) (fun _ => rfl)) da_nil rfl) rfl rfl)))
theorem b__law_lot (Fx : FX preds globs frees fnl K mg) : Binds K (fdOf K ("_law_lot", none)) ["_law_draws_here", "_law_worlds"] [] := (Fx.d 34 rfl).bindsN fun _ _ _ _ _ _ us hl => match us, hl with | [_, _], _ => rfl
theorem sc__law_some : FnScope ["_law_draws_here", "_law_worlds", "_law_first", "_law_more", "_law_world"] ["_law_draws_here", "_law_worlds"] (defScope (top 46)) := ⟨rfl, rfl, rfl, by decide +kernel, rfl, by decide +kernel, by decide +kernel⟩
theorem ok__law_some (Fx : FX preds globs frees fnl K mg) : FnOk P w K mg base (L2N.CX P w) 3 (He.ga K "_law_some") (fdOf K ("_law_some", none)) ["_law_draws_here", "_law_worlds"] (spF K (clK clsN K) 2 F__law_some) :=
  fn_cold false (Fx.d 35 rfl) sc__law_some fun H0 mu0 W cdv A outer s H E hr tk =>
    (ds_cons (ds_setV (i := 2) sc__law_some.nd rfl (.inr rfl) (de_call rfl (ok__law_take Fx) (hr.mono (by decide)) rfl (Fx.g 36 rfl) (Fx.d 30 rfl).kp (b__law_take Fx) (fun σ => L2N.passAt tk σ) (da_cons (de_name (pe_var (i := 0) rfl (.inl rfl))) (da_cons (de_name (pe_var (i := 1) rfl (.inl rfl))) da_nil rfl) rfl) (by decide) rfl rfl) rfl rfl)
    (ds_cons (ds_setV (i := 3) sc__law_some.nd rfl (.inr rfl) (de_call rfl (ok__law_lot Fx) (hr.mono (by decide)) rfl (Fx.g 40 rfl) (Fx.d 34 rfl).kp (b__law_lot Fx) (fun σ => L2N.passAt tk σ) (da_cons (de_name (pe_var (i := 0) rfl (.inl rfl))) (da_cons (de_name (pe_var (i := 1) rfl (.inl rfl))) da_nil rfl) rfl) (by decide) rfl rfl) rfl rfl)
    (ds_one (ds_ret (de_callTy call_tuple_of sim_tuple bo_tuple (by decide) (by decide) rfl (Fx.fr 10 rfl) (da_cons (de_lc false (own := [("_law_world", 4)]) rfl sc__law_some.nd (di_range1 rfl (Fx.fr 11 rfl) (da_cons (de_name (pe_var (i := 1) rfl (.inl rfl))) da_nil rfl) rfl) (blkOk_by rfl) (fun _ _ _ _ _ => (pg_name (i := 4) sc__law_some.nd rfl (.inl rfl) (.inr rfl))) simG_name (by decide) (fun _ _ _ _ _ => (dts_one (dt_bool (dw_or (dt_cmp (op_eqD (hu64 hr)) sim_eq (de_name (pe_var (i := 4) rfl (.inl rfl))) (de_name (pe_var (i := 2) rfl (.inr (.inl rfl)))) (nomark _)) (dw_or1 (dt_cmp (op_inT (hu65 hr)) sim_in (de_name (pe_var (i := 4) rfl (.inl rfl))) (de_name (pe_var (i := 3) rfl (.inr (.inl rfl)))) rfl)))))) (fun _ _ _ _ _ => (de_name (pe_var (i := 4) rfl (.inl rfl)))) (fun _ => rfl)) da_nil rfl) rfl rfl)))))
theorem b__law_some (Fx : FX preds globs frees fnl K mg) : Binds K (fdOf K ("_law_some", none)) ["_law_draws_here", "_law_worlds"] [] := (Fx.d 35 rfl).bindsN fun _ _ _ _ _ _ us hl => match us, hl with | [_, _], _ => rfl
theorem sc__law_short : FnScope ["_law_draws_here", "_law_worlds", "_law_missing", "_law_lot_here", "_law_world"] ["_law_draws_here", "_law_worlds"] (defScope (top 47)) := ⟨rfl, rfl, rfl, by decide +kernel, rfl, by decide +kernel, by decide +kernel⟩
theorem ok__law_short (Fx : FX preds globs frees fnl K mg) : FnOk P w K mg base (L2N.CX P w) 3 (He.ga K "_law_short") (fdOf K ("_law_short", none)) ["_law_draws_here", "_law_worlds"] (spF K (clK clsN K) 2 F__law_short) :=
  fn_cold false (Fx.d 36 rfl) sc__law_short fun H0 mu0 W cdv A outer s H E hr tk =>
    (ds_cons (ds_setV (i := 2) sc__law_short.nd rfl (.inr rfl) (de_call rfl (ok__law_take Fx) (hr.mono (by decide)) rfl (Fx.g 36 rfl) (Fx.d 30 rfl).kp (b__law_take Fx) (fun σ => L2N.passAt tk σ) (da_cons (de_name (pe_var (i := 0) rfl (.inl rfl))) (da_cons (de_name (pe_var (i := 1) rfl (.inl rfl))) da_nil rfl) rfl) (by decide) rfl rfl) rfl rfl)
    (ds_cons (ds_setV (i := 3) sc__law_short.nd rfl (.inl rfl) (de_call rfl (ok__law_lot Fx) (hr.mono (by decide)) rfl (Fx.g 40 rfl) (Fx.d 34 rfl).kp (b__law_lot Fx) (fun σ => L2N.passAt tk σ) (da_cons (de_name (pe_var (i := 0) rfl (.inl rfl))) (da_cons (de_name (pe_var (i := 1) rfl (.inl rfl))) da_nil rfl) rfl) (by decide) rfl rfl) rfl rfl)
    (ds_one (ds_ret (de_callTy call_tuple_of sim_tuple bo_tuple (by decide) (by decide) rfl (Fx.fr 10 rfl) (da_cons (de_lc false (own := [("_law_world", 4)]) rfl sc__law_short.nd (di_any rfl (de_name (pe_var (i := 3) rfl (.inl rfl)))) (blkOk_by rfl) (fun _ _ _ _ _ => (pg_name (i := 4) sc__law_short.nd rfl (.inl rfl) (.inr rfl))) simG_name (by decide) (fun _ _ _ _ _ => (dts_one (dt_cmp (op_neD (hu64 hr)) sim_ne (de_name (pe_var (i := 4) rfl (.inl rfl))) (de_name (pe_var (i := 2) rfl (.inr (.inl rfl)))) (nomark _)))) (fun _ _ _ _ _ => (de_name (pe_var (i := 4) rfl (.inl rfl)))) (fun _ => rfl)) da_nil rfl) rfl rfl)))))
theorem b__law_short (Fx : FX preds globs frees fnl K mg) : Binds K (fdOf K ("_law_short", none)) ["_law_draws_here", "_law_worlds"] [] := (Fx.d 36 rfl).bindsN fun _ _ _ _ _ _ us hl => match us, hl with | [_, _], _ => rfl
theorem sc__law_common : FnScope ["_law_one", "_law_other", "_law_world"] ["_law_one", "_law_other"] (defScope (top 48)) := ⟨rfl, rfl, rfl, by decide +kernel, rfl, by decide +kernel, by decide +kernel⟩
theorem ok__law_common (Fx : FX preds globs frees fnl K mg) : FnOk P w K mg base (L2N.CX P w) 1 (He.ga K "_law_common") (fdOf K ("_law_common", none)) ["_law_one", "_law_other"] (spF K (clK clsN K) 2 F__law_common) :=
  fn_cold false (Fx.d 37 rfl) sc__law_common fun H0 mu0 W cdv A outer s H E hr tk =>
    (ds_one (ds_ret (de_callTy call_tuple_of sim_tuple bo_tuple (by decide) (by decide) rfl (Fx.fr 10 rfl) (da_cons (de_lc false (own := [("_law_world", 2)]) rfl sc__law_common.nd (di_any rfl (de_name (pe_var (i := 0) rfl (.inl rfl)))) (blkOk_by rfl) (fun _ _ _ _ _ => (pg_name (i := 2) sc__law_common.nd rfl (.inl rfl) (.inr rfl))) simG_name (by decide) (fun _ _ _ _ _ => (dts_one (dt_cmp (op_inT (hu65 hr)) sim_in (de_name (pe_var (i := 2) rfl (.inl rfl))) (de_name (pe_var (i := 1) rfl (.inr (.inl rfl)))) rfl))) (fun _ _ _ _ _ => (de_name (pe_var (i := 2) rfl (.inl rfl)))) (fun _ => rfl)) da_nil rfl) rfl rfl)))
theorem b__law_common (Fx : FX preds globs frees fnl K mg) : Binds K (fdOf K ("_law_common", none)) ["_law_one", "_law_other"] [] := (Fx.d 37 rfl).bindsN fun _ _ _ _ _ _ us hl => match us, hl with | [_, _], _ => rfl
theorem sc__law_plus : FnScope ["_law_one", "_law_other", "_law_world"] ["_law_one", "_law_other"] (defScope (top 49)) := ⟨rfl, rfl, rfl, by decide +kernel, rfl, by decide +kernel, by decide +kernel⟩
theorem ok__law_plus (Fx : FX preds globs frees fnl K mg) : FnOk P w K mg base (L2N.CX P w) 1 (He.ga K "_law_plus") (fdOf K ("_law_plus", none)) ["_law_one", "_law_other"] (spF K (clK clsN K) 2 F__law_plus) :=
  fn_cold false (Fx.d 38 rfl) sc__law_plus fun H0 mu0 W cdv A outer s H E hr tk =>
    (ds_one (ds_ret (de_callTy call_tuple_of sim_tuple bo_tuple (by decide) (by decide) rfl (Fx.fr 10 rfl) (da_cons (de_callB cr_sortedI sim_sortedI bo_sorted (by decide) (by decide) rfl (Fx.fr 6 rfl) (da_cons (de_add rfl (de_callTy call_list_of sim_list bo_list (by decide) (by decide) rfl (Fx.fr 9 rfl) (da_cons (de_name (pe_var (i := 0) rfl (.inr (.inl rfl)))) da_nil rfl) rfl rfl) (de_lc false (own := [("_law_world", 2)]) rfl sc__law_plus.nd (di_any rfl (de_name (pe_var (i := 1) rfl (.inl rfl)))) (blkOk_by rfl) (fun _ _ _ _ _ => (pg_name (i := 2) sc__law_plus.nd rfl (.inl rfl) (.inr rfl))) simG_name (by decide) (fun _ _ _ _ _ => (dts_one (dt_cmp (op_notInT (hu65 hr)) sim_in (de_name (pe_var (i := 2) rfl (.inl rfl))) (de_name (pe_var (i := 0) rfl (.inr (.inl rfl)))) rfl))) (fun _ _ _ _ _ => (de_name (pe_var (i := 2) rfl (.inl rfl)))) (fun _ => rfl))) da_nil rfl) rfl rfl) da_nil rfl) rfl rfl)))
theorem b__law_plus (Fx : FX preds globs frees fnl K mg) : Binds K (fdOf K ("_law_plus", none)) ["_law_one", "_law_other"] [] := (Fx.d 38 rfl).bindsN fun _ _ _ _ _ _ us hl => match us, hl with | [_, _], _ => rfl
theorem sc__law_inside : FnScope ["_law_one", "_law_other", "_law_world"] ["_law_one", "_law_other"] (defScope (top 50)) := ⟨rfl, rfl, rfl, by decide +kernel, rfl, by decide +kernel, by decide +kernel⟩
theorem ok__law_inside (Fx : FX preds globs frees fnl K mg) : FnOk P w K mg base (L2N.CX P w) 1 (He.ga K "_law_inside") (fdOf K ("_law_inside", none)) ["_law_one", "_law_other"] (spF K (clK clsN K) 2 F__law_inside) :=
  fn_cold false (Fx.d 39 rfl) sc__law_inside fun H0 mu0 W cdv A outer s H E hr tk =>
    (ds_one (ds_ret (de_cmp (op_eqD (hu64 hr)) sim_eq (de_callB call_len sim_len bo_len (by decide) (by decide) rfl (Fx.fr 1 rfl) (da_cons (de_lc false (own := [("_law_world", 2)]) rfl sc__law_inside.nd (di_any rfl (de_name (pe_var (i := 0) rfl (.inl rfl)))) (blkOk_by rfl) (fun _ _ _ _ _ => (pg_name (i := 2) sc__law_inside.nd rfl (.inl rfl) (.inr rfl))) simG_name (by decide) (fun _ _ _ _ _ => (dts_one (dt_cmp (op_notInT (hu65 hr)) sim_in (de_name (pe_var (i := 2) rfl (.inl rfl))) (de_name (pe_var (i := 1) rfl (.inr (.inl rfl)))) rfl))) (fun _ _ _ _ _ => (de_name (pe_var (i := 2) rfl (.inl rfl)))) (fun _ => rfl)) da_nil rfl) rfl rfl) de_int (nomark _))))
theorem b__law_inside (Fx : FX preds globs frees fnl K mg) : Binds K (fdOf K ("_law_inside", none)) ["_law_one", "_law_other"] [] := (Fx.d 39 rfl).bindsN fun _ _ _ _ _ _ us hl => match us, hl with | [_, _], _ => rfl
theorem sc__law_same : FnScope ["_law_told", "_law_due"] ["_law_told", "_law_due"] (defScope (top 51)) := ⟨rfl, rfl, rfl, by decide +kernel, rfl, by decide +kernel, by decide +kernel⟩
theorem ok__law_same (Fx : FX preds globs frees fnl K mg) : FnOk P w K mg base (L2N.CX P w) 1 (He.ga K "_law_same") (fdOf K ("_law_same", none)) ["_law_told", "_law_due"] (spF K (clK clsN K) 2 F__law_same) :=
  fn_cold false (Fx.d 40 rfl) sc__law_same fun H0 mu0 W cdv A outer s H E hr tk =>
    (ds_cons (ds_if (dt_tru rfl (de_name (pe_var (i := 1) rfl (.inl rfl))) (fun _ => rfl)) (ds_one (ds_ret (de_cmp (OpR.or op_isN op_isBl) sim_is (de_name (pe_var (i := 0) rfl (.inl rfl))) de_bl (nomark _)))) ds_nil)
    (ds_one (ds_ret (de_cmp (OpR.or op_isN op_isBl) sim_is (de_name (pe_var (i := 0) rfl (.inl rfl))) de_bl (nomark _)))))
theorem b__law_same (Fx : FX preds globs frees fnl K mg) : Binds K (fdOf K ("_law_same", none)) ["_law_told", "_law_due"] [] := (Fx.d 40 rfl).bindsN fun _ _ _ _ _ _ us hl => match us, hl with | [_, _], _ => rfl
theorem sc__law_base : FnScope ["_law_draws_here", "_law_worlds", "_law_many", "_law_least", "_law_base_here", "_law_turn", "_law_kind"] ["_law_draws_here", "_law_worlds", "_law_many", "_law_least"] (defScope (top 52)) := ⟨rfl, rfl, rfl, by decide +kernel, rfl, by decide +kernel, by decide +kernel⟩
theorem ok__law_base (Fx : FX preds globs frees fnl K mg) : FnOk P w K mg base (L2N.CX P w) 4 (He.ga K "_law_base") (fdOf K ("_law_base", none)) ["_law_draws_here", "_law_worlds", "_law_many", "_law_least"] (spF K (clK clsN K) 4 F__law_base) :=
  fn_cold false (Fx.d 41 rfl) sc__law_base fun H0 mu0 W cdv A outer s H E hr tk =>
    (ds_cons (ds_setV (i := 4) sc__law_base.nd rfl (.inl rfl) (de_lst true da_nil) rfl rfl)
    (ds_cons (ds_for (L2.passes_of rfl) rfl (di_range1 rfl (Fx.fr 11 rfl) (da_cons (de_name (pe_var (i := 2) rfl (.inl rfl))) da_nil rfl) rfl) (pg_name (i := 5) sc__law_base.nd rfl (.inl rfl) (.inl rfl)) simG_name (ds_cons (ds_setV (i := 6) sc__law_base.nd rfl (.inl rfl) (de_call rfl (ok__law_take Fx) (hr.mono (by decide)) rfl (Fx.g 36 rfl) (Fx.d 30 rfl).kp (b__law_take Fx) (fun σ => L2N.passAt tk σ) (da_cons (de_name (pe_var (i := 0) rfl (.inl rfl))) (da_cons de_int da_nil rfl) rfl) (by decide) rfl rfl) rfl rfl)
    (ds_one (ds_if (dt_bool (dw_and (dt_cmp (op_eqD (hu64 hr)) sim_eq (de_name (pe_var (i := 6) rfl (.inl rfl))) de_int (nomark _)) (dw_and1 (dt_cmp op_gt (sim_I0 fun _ _ _ _ => .bl _) (de_callB call_len sim_len bo_len (by decide) (by decide) rfl (Fx.fr 1 rfl) (da_cons (de_name (pe_var (i := 4) rfl (.inl rfl))) da_nil rfl) rfl rfl) de_int (nomark _))))) (ds_one (ds_expr (de_mt rfl (PySem.F.slot_list_append) PySem.F.type_list_append mt_append sim_append (de_name (pe_var (i := 4) rfl (.inl rfl))) (da_cons (de_ix rfl (de_name (pe_var (i := 4) rfl (.inl rfl))) (de_call rfl (ok__law_take Fx) (hr.mono (by decide)) rfl (Fx.g 36 rfl) (Fx.d 30 rfl).kp (b__law_take Fx) (fun σ => L2N.passAt tk σ) (da_cons (de_name (pe_var (i := 0) rfl (.inl rfl))) (da_cons (de_callB call_len sim_len bo_len (by decide) (by decide) rfl (Fx.fr 1 rfl) (da_cons (de_name (pe_var (i := 4) rfl (.inl rfl))) da_nil rfl) rfl rfl) da_nil rfl) rfl) (by decide) rfl rfl) (fun _ _ => rfl)) da_nil rfl) rfl rfl rfl rfl rfl) rfl)) (ds_one (ds_if (dt_bool (dw_and (dt_cmp (op_eqD (hu64 hr)) sim_eq (de_name (pe_var (i := 6) rfl (.inl rfl))) de_int (nomark _)) (dw_and1 (dt_cmp (op_eqD (hu64 hr)) sim_eq (de_name (pe_var (i := 3) rfl (.inl rfl))) de_int (nomark _))))) (ds_one (ds_expr (de_mt rfl (PySem.F.slot_list_append) PySem.F.type_list_append mt_append sim_append (de_name (pe_var (i := 4) rfl (.inl rfl))) (da_cons (de_tup da_nil) da_nil rfl) rfl rfl rfl rfl rfl) rfl)) (ds_one (ds_if (dt_cmp (op_eqD (hu64 hr)) sim_eq (de_name (pe_var (i := 6) rfl (.inl rfl))) de_int (nomark _)) (ds_one (ds_expr (de_mt rfl (PySem.F.slot_list_append) PySem.F.type_list_append mt_append sim_append (de_name (pe_var (i := 4) rfl (.inl rfl))) (da_cons (de_tupRg rfl rfl (Fx.fr 10 rfl) (dr_1 rfl (Fx.fr 11 rfl) (de_name (pe_var (i := 1) rfl (.inl rfl))) rfl) rfl) da_nil rfl) rfl rfl rfl rfl rfl) rfl)) (ds_one (ds_expr (de_mt rfl (PySem.F.slot_list_append) PySem.F.type_list_append mt_append sim_append (de_name (pe_var (i := 4) rfl (.inl rfl))) (da_cons (de_call rfl (ok__law_some Fx) (hr.mono (by decide)) rfl (Fx.g 41 rfl) (Fx.d 35 rfl).kp (b__law_some Fx) (fun σ => L2N.passAt tk σ) (da_cons (de_name (pe_var (i := 0) rfl (.inl rfl))) (da_cons (de_name (pe_var (i := 1) rfl (.inl rfl))) da_nil rfl) rfl) (by decide) rfl rfl) da_nil rfl) rfl rfl rfl rfl rfl) rfl))))))))) (fun _ => rfl))
    (ds_one (ds_ret (de_name (pe_var (i := 4) rfl (.inl rfl)))))))
theorem b__law_base (Fx : FX preds globs frees fnl K mg) : Binds K (fdOf K ("_law_base", none)) ["_law_draws_here", "_law_worlds", "_law_many", "_law_least"] [] := (Fx.d 41 rfl).bindsN fun _ _ _ _ _ _ us hl => match us, hl with | [_, _, _, _], _ => rfl
theorem sc__law_says : FnScope ["_law_base_here", "_law_worlds", "_law_sublist", "_law_lot_here", "_law_place"] ["_law_base_here", "_law_worlds", "_law_sublist"] (defScope (top 53)) := ⟨rfl, rfl, rfl, by decide +kernel, rfl, by decide +kernel, by decide +kernel⟩
theorem ok__law_says (Fx : FX preds globs frees fnl K mg) : FnOk P w K mg base (L2N.CX P w) 2 (He.ga K "_law_says") (fdOf K ("_law_says", none)) ["_law_base_here", "_law_worlds", "_law_sublist"] (spF K (clK clsN K) 3 F__law_says) :=
  fn_cold false (Fx.d 42 rfl) sc__law_says fun H0 mu0 W cdv A outer s H E hr tk =>
    (ds_cons (ds_setV (i := 3) sc__law_says.nd rfl (.inl rfl) (de_tupRg rfl rfl (Fx.fr 10 rfl) (dr_1 rfl (Fx.fr 11 rfl) (de_name (pe_var (i := 1) rfl (.inl rfl))) rfl) rfl) rfl rfl)
    (ds_cons (ds_for (L2.passes_of rfl) rfl (di_any rfl (de_name (pe_var (i := 2) rfl (.inl rfl)))) (pg_name (i := 4) sc__law_says.nd rfl (.inl rfl) (.inl rfl)) simG_name (ds_one (ds_setV (i := 3) sc__law_says.nd rfl (.inl rfl) (de_call rfl (ok__law_common Fx) (hr.mono (by decide)) rfl (Fx.g 43 rfl) (Fx.d 37 rfl).kp (b__law_common Fx) (fun σ => L2N.passAt tk σ) (da_cons (de_name (pe_var (i := 3) rfl (.inl rfl))) (da_cons (de_ix rfl (de_name (pe_var (i := 0) rfl (.inl rfl))) (de_name (pe_var (i := 4) rfl (.inl rfl))) (fun _ _ => rfl)) da_nil rfl) rfl) (by decide) rfl rfl) rfl rfl)) (fun _ => rfl))
    (ds_one (ds_ret (de_name (pe_var (i := 3) rfl (.inl rfl)))))))
theorem b__law_says (Fx : FX preds globs frees fnl K mg) : Binds K (fdOf K ("_law_says", none)) ["_law_base_here", "_law_worlds", "_law_sublist"] [] := (Fx.d 42 rfl).bindsN fun _ _ _ _ _ _ us hl => match us, hl with | [_, _, _], _ => rfl
theorem sc__law_carried : FnScope ["_law_base_here", "_law_worlds", "_law_lot_here", "_law_found", "_law_sublist"] ["_law_base_here", "_law_worlds", "_law_lot_here"] (defScope (top 54)) := ⟨rfl, rfl, rfl, by decide +kernel, rfl, by decide +kernel, by decide +kernel⟩
theorem ok__law_carried (Fx : FX preds globs frees fnl K mg) : FnOk P w K mg base (L2N.CX P w) 3 (He.ga K "_law_carried") (fdOf K ("_law_carried", none)) ["_law_base_here", "_law_worlds", "_law_lot_here"] (spF K (clK clsN K) 3 F__law_carried) :=
  fn_cold false (Fx.d 43 rfl) sc__law_carried fun H0 mu0 W cdv A outer s H E hr tk =>
    (ds_cons (ds_setV (i := 3) sc__law_carried.nd rfl (.inl rfl) (de_lst true da_nil) rfl rfl)
    (ds_cons (ds_for (L2.passes_of rfl) rfl (di_any rfl (de_call rfl (ok__law_lots Fx) (hr.mono (by decide)) rfl (Fx.g 39 rfl) (Fx.d 33 rfl).kp (b__law_lots Fx) (fun σ => L2N.passAt tk σ) (da_cons (de_callB call_len sim_len bo_len (by decide) (by decide) rfl (Fx.fr 1 rfl) (da_cons (de_name (pe_var (i := 0) rfl (.inl rfl))) da_nil rfl) rfl rfl) da_nil rfl) (by decide) rfl rfl)) (pg_name (i := 4) sc__law_carried.nd rfl (.inl rfl) (.inl rfl)) simG_name (ds_one (ds_if (dt_tru rfl (de_call rfl (ok__law_inside Fx) (hr.mono (by decide)) rfl (Fx.g 45 rfl) (Fx.d 39 rfl).kp (b__law_inside Fx) (fun σ => L2N.passAt tk σ) (da_cons (de_call rfl (ok__law_says Fx) (hr.mono (by decide)) rfl (Fx.g 48 rfl) (Fx.d 42 rfl).kp (b__law_says Fx) (fun σ => L2N.passAt tk σ) (da_cons (de_name (pe_var (i := 0) rfl (.inl rfl))) (da_cons (de_name (pe_var (i := 1) rfl (.inl rfl))) (da_cons (de_name (pe_var (i := 4) rfl (.inl rfl))) da_nil rfl) rfl) rfl) (by decide) rfl rfl) (da_cons (de_name (pe_var (i := 2) rfl (.inl rfl))) da_nil rfl) rfl) (by decide) rfl rfl) (fun _ => rfl)) (ds_one (ds_expr (de_mt rfl (PySem.F.slot_list_append) PySem.F.type_list_append mt_append sim_append (de_name (pe_var (i := 3) rfl (.inl rfl))) (da_cons (de_name (pe_var (i := 4) rfl (.inl rfl))) da_nil rfl) rfl rfl rfl rfl rfl) rfl)) ds_nil)) (fun _ => rfl))
    (ds_one (ds_ret (de_name (pe_var (i := 3) rfl (.inl rfl)))))))
theorem b__law_carried (Fx : FX preds globs frees fnl K mg) : Binds K (fdOf K ("_law_carried", none)) ["_law_base_here", "_law_worlds", "_law_lot_here"] [] := (Fx.d 43 rfl).bindsN fun _ _ _ _ _ _ us hl => match us, hl with | [_, _, _], _ => rfl
theorem sc__law_rests : FnScope ["_law_many", "_law_carried_here", "_law_found", "_law_sublist", "_law_more", "_law_place"] ["_law_many", "_law_carried_here"] (defScope (top 55)) := ⟨rfl, rfl, rfl, by decide +kernel, rfl, by decide +kernel, by decide +kernel⟩
theorem ok__law_rests (Fx : FX preds globs frees fnl K mg) : FnOk P w K mg base (L2N.CX P w) 2 (He.ga K "_law_rests") (fdOf K ("_law_rests", none)) ["_law_many", "_law_carried_here"] (spF K (clK clsN K) 2 F__law_rests) :=
  fn_cold false (Fx.d 44 rfl) sc__law_rests fun H0 mu0 W cdv A outer s H E hr tk =>
    (ds_cons (ds_setV (i := 2) sc__law_rests.nd rfl (.inl rfl) (de_lst true da_nil) rfl rfl)
    (ds_cons (ds_for (L2.passes_of rfl) rfl (di_any rfl (de_call rfl (ok__law_lots Fx) (hr.mono (by decide)) rfl (Fx.g 39 rfl) (Fx.d 33 rfl).kp (b__law_lots Fx) (fun σ => L2N.passAt tk σ) (da_cons (de_name (pe_var (i := 0) rfl (.inl rfl))) da_nil rfl) (by decide) rfl rfl)) (pg_name (i := 3) sc__law_rests.nd rfl (.inr rfl) (.inl rfl)) simG_name (ds_one (ds_if (dt_cmp (op_notInT (hu65 hr)) sim_in (de_name (pe_var (i := 3) rfl (.inr (.inl rfl)))) (de_name (pe_var (i := 1) rfl (.inr (.inl rfl)))) rfl) (ds_cons (ds_setLc false (i := 4) (own := [("_law_place", 5)]) rfl sc__law_rests.nd rfl rfl rfl (di_range1 rfl (Fx.fr 11 rfl) (da_cons (de_name (pe_var (i := 0) rfl (.inl rfl))) da_nil rfl) rfl) (blkOk_by rfl) (fun _ _ _ _ _ => (pg_name (i := 5) sc__law_rests.nd rfl (.inl rfl) (.inr rfl))) simG_name (by decide) (fun _ _ _ _ _ => (dts_one (dt_cmp (op_notInT (hu65 hr)) sim_in (de_name (pe_var (i := 5) rfl (.inl rfl))) (de_name (pe_var (i := 3) rfl (.inr (.inl rfl)))) rfl))) (fun _ _ _ _ _ => (de_name (pe_var (i := 5) rfl (.inl rfl)))) (fun _ => rfl))
    (ds_one (ds_if (dt_cmp (op_eqD (hu64 hr)) sim_eq (de_callB call_len sim_len bo_len (by decide) (by decide) rfl (Fx.fr 1 rfl) (da_cons (de_lc false (own := [("_law_place", 5)]) rfl sc__law_rests.nd (di_any rfl (de_name (pe_var (i := 4) rfl (.inl rfl)))) (blkOk_by rfl) (fun _ _ _ _ _ => (pg_name (i := 5) sc__law_rests.nd rfl (.inl rfl) (.inr rfl))) simG_name (by decide) (fun _ _ _ _ _ => (dts_one (dt_cmp (op_notInT (hu65 hr)) sim_in (de_call rfl (ok__law_plus Fx) (hr.mono (by decide)) rfl (Fx.g 44 rfl) (Fx.d 38 rfl).kp (b__law_plus Fx) pnoN (da_cons (de_name (pe_var (i := 3) rfl (.inr (.inl rfl)))) (da_cons (de_tup (da_cons (de_name (pe_var (i := 5) rfl (.inl rfl))) da_nil rfl)) da_nil rfl) rfl) (by decide) rfl rfl) (de_name (pe_var (i := 1) rfl (.inr (.inl rfl)))) rfl))) (fun _ _ _ _ _ => (de_name (pe_var (i := 5) rfl (.inl rfl)))) (fun _ => rfl)) da_nil rfl) rfl rfl) de_int (nomark _)) (ds_one (ds_expr (de_mt rfl (PySem.F.slot_list_append) PySem.F.type_list_append mt_append sim_append (de_name (pe_var (i := 2) rfl (.inl rfl))) (da_cons (de_name (pe_var (i := 3) rfl (.inr (.inl rfl)))) da_nil rfl) rfl rfl rfl rfl rfl) rfl)) ds_nil))) ds_nil)) (fun _ => rfl))
    (ds_one (ds_ret (de_name (pe_var (i := 2) rfl (.inl rfl)))))))
theorem b__law_rests (Fx : FX preds globs frees fnl K mg) : Binds K (fdOf K ("_law_rests", none)) ["_law_many", "_law_carried_here"] [] := (Fx.d 44 rfl).bindsN fun _ _ _ _ _ _ us hl => match us, hl with | [_, _], _ => rfl
theorem sc__law_kernels : FnScope ["_law_carried_here", "_law_found", "_law_sublist", "_law_one"] ["_law_carried_here"] (defScope (top 56)) := ⟨rfl, rfl, rfl, by decide +kernel, rfl, by decide +kernel, by decide +kernel⟩
theorem ok__law_kernels (Fx : FX preds globs frees fnl K mg) : FnOk P w K mg base (L2N.CX P w) 2 (He.ga K "_law_kernels") (fdOf K ("_law_kernels", none)) ["_law_carried_here"] (spF K (clK clsN K) 1 F__law_kernels) :=
  fn_cold false (Fx.d 45 rfl) sc__law_kernels fun H0 mu0 W cdv A outer s H E hr tk =>
    (ds_cons (ds_setV (i := 1) sc__law_kernels.nd rfl (.inl rfl) (de_lst true da_nil) rfl rfl)
    (ds_cons (ds_for (L2.passes_of rfl) rfl (di_any rfl (de_name (pe_var (i := 0) rfl (.inl rfl)))) (pg_name (i := 2) sc__law_kernels.nd rfl (.inr rfl) (.inl rfl)) simG_name (ds_one (ds_if (dt_cmp (op_eqD (hu64 hr)) sim_eq (de_callB call_len sim_len bo_len (by decide) (by decide) rfl (Fx.fr 1 rfl) (da_cons (de_lc false (own := [("_law_one", 3)]) rfl sc__law_kernels.nd (di_any rfl (de_name (pe_var (i := 1) rfl (.inl rfl)))) (blkOk_by rfl) (fun _ _ _ _ _ => (pg_name (i := 3) sc__law_kernels.nd rfl (.inl rfl) (.inr rfl))) simG_name (by decide) (fun _ _ _ _ _ => (dts_one (dt_tru rfl (de_call rfl (ok__law_inside Fx) (hr.mono (by decide)) rfl (Fx.g 45 rfl) (Fx.d 39 rfl).kp (b__law_inside Fx) pnoN (da_cons (de_name (pe_var (i := 3) rfl (.inl rfl))) (da_cons (de_name (pe_var (i := 2) rfl (.inr (.inl rfl)))) da_nil rfl) rfl) (by decide) rfl rfl) (fun _ => rfl)))) (fun _ _ _ _ _ => (de_name (pe_var (i := 3) rfl (.inl rfl)))) (fun _ => rfl)) da_nil rfl) rfl rfl) de_int (nomark _)) (ds_one (ds_expr (de_mt rfl (PySem.F.slot_list_append) PySem.F.type_list_append mt_append sim_append (de_name (pe_var (i := 1) rfl (.inl rfl))) (da_cons (de_name (pe_var (i := 2) rfl (.inr (.inl rfl)))) da_nil rfl) rfl rfl rfl rfl rfl) rfl)) ds_nil)) (fun _ => rfl))
    (ds_one (ds_ret (de_name (pe_var (i := 1) rfl (.inl rfl)))))))
theorem b__law_kernels (Fx : FX preds globs frees fnl K mg) : Binds K (fdOf K ("_law_kernels", none)) ["_law_carried_here"] [] := (Fx.d 45 rfl).bindsN fun _ _ _ _ _ _ us hl => match us, hl with | [_], _ => rfl
theorem sc__law_places : FnScope ["_law_sublist", "_law_many", "_law_place"] ["_law_sublist", "_law_many"] (defScope (top 57)) := ⟨rfl, rfl, rfl, by decide +kernel, rfl, by decide +kernel, by decide +kernel⟩
theorem ok__law_places (Fx : FX preds globs frees fnl K mg) : FnOk P w K mg base (L2N.CX P w) 1 (He.ga K "_law_places") (fdOf K ("_law_places", none)) ["_law_sublist", "_law_many"] (spF K (clK clsN K) 2 F__law_places) :=
  fn_cold false (Fx.d 46 rfl) sc__law_places fun H0 mu0 W cdv A outer s H E hr tk =>
    (ds_one (ds_ret (de_callTy call_tuple_of sim_tuple bo_tuple (by decide) (by decide) rfl (Fx.fr 10 rfl) (da_cons (de_lc false (own := [("_law_place", 2)]) rfl sc__law_places.nd (di_range1 rfl (Fx.fr 11 rfl) (da_cons (de_name (pe_var (i := 1) rfl (.inl rfl))) da_nil rfl) rfl) (blkOk_by rfl) (fun _ _ _ _ _ => (pg_name (i := 2) sc__law_places.nd rfl (.inl rfl) (.inr rfl))) simG_name (by decide) (fun _ _ _ _ _ => (dts_one (dt_cmp (op_notInT (hu65 hr)) sim_in (de_name (pe_var (i := 2) rfl (.inl rfl))) (de_name (pe_var (i := 0) rfl (.inr (.inl rfl)))) rfl))) (fun _ _ _ _ _ => (de_name (pe_var (i := 2) rfl (.inl rfl)))) (fun _ => rfl)) da_nil rfl) rfl rfl)))
theorem b__law_places (Fx : FX preds globs frees fnl K mg) : Binds K (fdOf K ("_law_places", none)) ["_law_sublist", "_law_many"] [] := (Fx.d 46 rfl).bindsN fun _ _ _ _ _ _ us hl => match us, hl with | [_, _], _ => rfl
theorem sc__law_sublists_are : FnScope ["_law_value", "_law_due", "_law_many", "_law_sublist"] ["_law_value", "_law_due", "_law_many"] (defScope (top 58)) := ⟨rfl, rfl, rfl, by decide +kernel, rfl, by decide +kernel, by decide +kernel⟩
theorem ok__law_sublists_are (Fx : FX preds globs frees fnl K mg) : FnOk P w K mg base (L2N.CX P w) 3 (He.ga K "_law_sublists_are") (fdOf K ("_law_sublists_are", none)) ["_law_value", "_law_due", "_law_many"] (spF K (clK clsN K) 3 F__law_sublists_are) :=
  fn_cold false (Fx.d 47 rfl) sc__law_sublists_are fun H0 mu0 W cdv A outer s H E hr tk =>
    (ds_cons (ds_if (dt_bool (dw_or (dt_not (dt_tru rfl (de_callB call_isi sim_isi bo_isinstance (by decide) (by decide) rfl (Fx.fr 0 rfl) (da_cons (de_name (pe_var (i := 0) rfl (.inl rfl))) (da_cons (de_ty rfl (Fx.fr 10 rfl) bo_tuple (by decide) (by decide)) da_nil rfl) rfl) rfl rfl) (fun _ => rfl))) (dw_or1 (dt_cmp (op_neD (hu64 hr)) sim_ne (de_callTy call_list_of sim_list bo_list (by decide) (by decide) rfl (Fx.fr 9 rfl) (da_cons (de_name (pe_var (i := 0) rfl (.inl rfl))) da_nil rfl) rfl rfl) (de_callTy call_list_of sim_list bo_list (by decide) (by decide) rfl (Fx.fr 9 rfl) (da_cons (de_name (pe_var (i := 1) rfl (.inl rfl))) da_nil rfl) rfl rfl) (nomark _))))) (ds_one (ds_ret de_bl)) ds_nil)
    (ds_one (ds_ret (de_cmp (op_eqD (hu64 hr)) sim_eq (de_callB call_len sim_len bo_len (by decide) (by decide) rfl (Fx.fr 1 rfl) (da_cons (de_lc false (own := [("_law_sublist", 3)]) rfl sc__law_sublists_are.nd (di_any rfl (de_name (pe_var (i := 0) rfl (.inl rfl)))) (blkOk_by rfl) (fun _ _ _ _ _ => (pg_name (i := 3) sc__law_sublists_are.nd rfl (.inl rfl) (.inr rfl))) simG_name (by decide) (fun _ _ _ _ _ => (dts_one (dt_not (dt_tru rfl (de_call rfl (ok__law_lot_kind Fx) (hr.mono (by decide)) rfl (Fx.g 38 rfl) (Fx.d 32 rfl).kp (b__law_lot_kind Fx) pnoN (da_cons (de_name (pe_var (i := 3) rfl (.inl rfl))) (da_cons (de_name (pe_var (i := 2) rfl (.inr (.inl rfl)))) da_nil rfl) rfl) (by decide) rfl rfl) (fun _ => rfl))))) (fun _ _ _ _ _ => (de_name (pe_var (i := 3) rfl (.inl rfl)))) (fun _ => rfl)) da_nil rfl) rfl rfl) de_int (nomark _)))))
theorem b__law_sublists_are (Fx : FX preds globs frees fnl K mg) : Binds K (fdOf K ("_law_sublists_are", none)) ["_law_value", "_law_due", "_law_many"] [] := (Fx.d 47 rfl).bindsN fun _ _ _ _ _ _ us hl => match us, hl with | [_, _, _], _ => rfl
theorem sc__law_hitting : FnScope ["_law_lists", "_law_many", "_law_found", "_law_sublist", "_law_missed", "_law_one", "_law_least"] ["_law_lists", "_law_many"] (defScope (top 59)) := ⟨rfl, rfl, rfl, by decide +kernel, rfl, by decide +kernel, by decide +kernel⟩
theorem ok__law_hitting (Fx : FX preds globs frees fnl K mg) : FnOk P w K mg base (L2N.CX P w) 2 (He.ga K "_law_hitting") (fdOf K ("_law_hitting", none)) ["_law_lists", "_law_many"] (spF K (clK clsN K) 2 F__law_hitting) :=
  fn_cold false (Fx.d 48 rfl) sc__law_hitting fun H0 mu0 W cdv A outer s H E hr tk =>
    (ds_cons (ds_setV (i := 2) sc__law_hitting.nd rfl (.inl rfl) (de_lst true da_nil) rfl rfl)
    (ds_cons (ds_for (L2.passes_of rfl) rfl (di_any rfl (de_call rfl (ok__law_lots Fx) (hr.mono (by decide)) rfl (Fx.g 39 rfl) (Fx.d 33 rfl).kp (b__law_lots Fx) (fun σ => L2N.passAt tk σ) (da_cons (de_name (pe_var (i := 1) rfl (.inl rfl))) da_nil rfl) (by decide) rfl rfl)) (pg_name (i := 3) sc__law_hitting.nd rfl (.inr rfl) (.inl rfl)) simG_name (ds_cons (ds_setLc false (i := 4) (own := [("_law_one", 5)]) rfl sc__law_hitting.nd rfl rfl rfl (di_any rfl (de_name (pe_var (i := 0) rfl (.inl rfl)))) (blkOk_by rfl) (fun _ _ _ _ _ => (pg_name (i := 5) sc__law_hitting.nd rfl (.inl rfl) (.inr rfl))) simG_name (by decide) (fun _ _ _ _ _ => (dts_one (dt_cmp (op_eqD (hu64 hr)) sim_eq (de_callB call_len sim_len bo_len (by decide) (by decide) rfl (Fx.fr 1 rfl) (da_cons (de_call rfl (ok__law_common Fx) (hr.mono (by decide)) rfl (Fx.g 43 rfl) (Fx.d 37 rfl).kp (b__law_common Fx) pnoN (da_cons (de_name (pe_var (i := 5) rfl (.inl rfl))) (da_cons (de_name (pe_var (i := 3) rfl (.inr (.inl rfl)))) da_nil rfl) rfl) (by decide) rfl rfl) da_nil rfl) rfl rfl) de_int (nomark _)))) (fun _ _ _ _ _ => (de_name (pe_var (i := 5) rfl (.inl rfl)))) (fun _ => rfl))
    (ds_one (ds_if (dt_bool (dw_and (dt_cmp (op_eqD (hu64 hr)) sim_eq (de_callB call_len sim_len bo_len (by decide) (by decide) rfl (Fx.fr 1 rfl) (da_cons (de_name (pe_var (i := 4) rfl (.inl rfl))) da_nil rfl) rfl rfl) de_int (nomark _)) (dw_and1 (dt_cmp (op_eqD (hu64 hr)) sim_eq (de_callB call_len sim_len bo_len (by decide) (by decide) rfl (Fx.fr 1 rfl) (da_cons (de_lc false (own := [("_law_least", 6)]) rfl sc__law_hitting.nd (di_any rfl (de_name (pe_var (i := 2) rfl (.inl rfl)))) (blkOk_by rfl) (fun _ _ _ _ _ => (pg_name (i := 6) sc__law_hitting.nd rfl (.inl rfl) (.inr rfl))) simG_name (by decide) (fun _ _ _ _ _ => (dts_one (dt_tru rfl (de_call rfl (ok__law_inside Fx) (hr.mono (by decide)) rfl (Fx.g 45 rfl) (Fx.d 39 rfl).kp (b__law_inside Fx) pnoN (da_cons (de_name (pe_var (i := 6) rfl (.inl rfl))) (da_cons (de_name (pe_var (i := 3) rfl (.inr (.inl rfl)))) da_nil rfl) rfl) (by decide) rfl rfl) (fun _ => rfl)))) (fun _ _ _ _ _ => (de_name (pe_var (i := 6) rfl (.inl rfl)))) (fun _ => rfl)) da_nil rfl) rfl rfl) de_int (nomark _))))) (ds_one (ds_expr (de_mt rfl (PySem.F.slot_list_append) PySem.F.type_list_append mt_append sim_append (de_name (pe_var (i := 2) rfl (.inl rfl))) (da_cons (de_name (pe_var (i := 3) rfl (.inr (.inl rfl)))) da_nil rfl) rfl rfl rfl rfl rfl) rfl)) ds_nil))) (fun _ => rfl))
    (ds_one (ds_ret (de_name (pe_var (i := 2) rfl (.inl rfl)))))))
theorem b__law_hitting (Fx : FX preds globs frees fnl K mg) : Binds K (fdOf K ("_law_hitting", none)) ["_law_lists", "_law_many"] [] := (Fx.d 48 rfl).bindsN fun _ _ _ _ _ _ us hl => match us, hl with | [_, _], _ => rfl
theorem sc__law_ordered : FnScope ["_law_sublists", "_law_many", "_law_sublist"] ["_law_sublists", "_law_many"] (defScope (top 60)) := ⟨rfl, rfl, rfl, by decide +kernel, rfl, by decide +kernel, by decide +kernel⟩
theorem ok__law_ordered (Fx : FX preds globs frees fnl K mg) : FnOk P w K mg base (L2N.CX P w) 2 (He.ga K "_law_ordered") (fdOf K ("_law_ordered", none)) ["_law_sublists", "_law_many"] (spF K (clK clsN K) 2 F__law_ordered) :=
  fn_cold false (Fx.d 49 rfl) sc__law_ordered fun H0 mu0 W cdv A outer s H E hr tk =>
    (ds_one (ds_ret (de_lc false (own := [("_law_sublist", 2)]) rfl sc__law_ordered.nd (di_any rfl (de_call rfl (ok__law_lots Fx) (hr.mono (by decide)) rfl (Fx.g 39 rfl) (Fx.d 33 rfl).kp (b__law_lots Fx) (fun σ => L2N.passAt tk σ) (da_cons (de_name (pe_var (i := 1) rfl (.inl rfl))) da_nil rfl) (by decide) rfl rfl)) (blkOk_by rfl) (fun _ _ _ _ _ => (pg_name (i := 2) sc__law_ordered.nd rfl (.inl rfl) (.inr rfl))) simG_name (by decide) (fun _ _ _ _ _ => (dts_one (dt_cmp (op_inT (hu65 hr)) sim_in (de_name (pe_var (i := 2) rfl (.inl rfl))) (de_name (pe_var (i := 0) rfl (.inr (.inl rfl)))) rfl))) (fun _ _ _ _ _ => (de_name (pe_var (i := 2) rfl (.inl rfl)))) (fun _ => rfl))))
theorem b__law_ordered (Fx : FX preds globs frees fnl K mg) : Binds K (fdOf K ("_law_ordered", none)) ["_law_sublists", "_law_many"] [] := (Fx.d 49 rfl).bindsN fun _ _ _ _ _ _ us hl => match us, hl with | [_, _], _ => rfl
theorem sc__law_is_so : FnScope ["_law_base_here", "_law_worlds", "_law_lot_here", "_law_many", "_law_handed", "_law_carried_here", "_law_resting", "_law_least", "_law_told", "_law_known", "_law_hits", "_law_back", "_law_whole", "_law_sublist", "_law_one", "_law_place"] ["_law_base_here", "_law_worlds", "_law_lot_here"] (defScope (top 61)) := ⟨rfl, rfl, rfl, by decide +kernel, rfl, by decide +kernel, by decide +kernel⟩
theorem ok__law_is_so (Fx : FX preds globs frees fnl K mg) : FnOk P w K mg base (L2.CX P w) 9 (He.ga K "_law_is_so") (fdOf K ("_law_is_so", none)) ["_law_base_here", "_law_worlds", "_law_lot_here"] (spF K (clK clsN K) 3 F__law_is_so) :=
  fn_hot false (Fx.d 50 rfl) sc__law_is_so fun H0 mu0 W cdv A outer s H E hr tk =>
    (ds_cons (ds_setV (i := 3) sc__law_is_so.nd rfl (.inr rfl) (de_callB call_len sim_len bo_len (by decide) (by decide) rfl (Fx.fr 1 rfl) (da_cons (de_name (pe_var (i := 0) rfl (.inl rfl))) da_nil rfl) rfl rfl) rfl rfl)
    (ds_cons (ds_setLc false (i := 4) (own := [("_law_one", 14)]) rfl sc__law_is_so.nd rfl rfl rfl (di_any rfl (de_name (pe_var (i := 0) rfl (.inl rfl)))) (blkOk_by rfl) (fun _ _ _ _ _ => (pg_name (i := 14) sc__law_is_so.nd rfl (.inl rfl) (.inr rfl))) simG_name (by decide) (fun _ _ _ _ _ => dts_nil) (fun _ _ _ _ _ => (de_rev false rfl (de_callTy call_list_of sim_list bo_list (by decide) (by decide) rfl (Fx.fr 9 rfl) (da_cons (de_name (pe_var (i := 14) rfl (.inl rfl))) da_nil rfl) rfl rfl))) (fun _ => rfl))
    (ds_cons (ds_setV (i := 5) sc__law_is_so.nd rfl (.inl rfl) (de_call rfl (ok__law_carried Fx) (hr.mono (by decide)) rfl (Fx.g 49 rfl) (Fx.d 43 rfl).kp (b__law_carried Fx) (fun σ => L2N.passAt (takesN tk) σ) (da_cons (de_name (pe_var (i := 0) rfl (.inl rfl))) (da_cons (de_name (pe_var (i := 1) rfl (.inl rfl))) (da_cons (de_name (pe_var (i := 2) rfl (.inl rfl))) da_nil rfl) rfl) rfl) (by decide) rfl rfl) rfl rfl)
    (ds_cons (ds_setV (i := 6) sc__law_is_so.nd rfl (.inr rfl) (de_call rfl (ok__law_rests Fx) (hr.mono (by decide)) rfl (Fx.g 50 rfl) (Fx.d 44 rfl).kp (b__law_rests Fx) (fun σ => L2N.passAt (takesN tk) σ) (da_cons (de_name (pe_var (i := 3) rfl (.inr (.inl rfl)))) (da_cons (de_name (pe_var (i := 5) rfl (.inl rfl))) da_nil rfl) rfl) (by decide) rfl rfl) rfl rfl)
    (ds_cons (ds_setV (i := 7) sc__law_is_so.nd rfl (.inl rfl) (de_call rfl (ok__law_kernels Fx) (hr.mono (by decide)) rfl (Fx.g 51 rfl) (Fx.d 45 rfl).kp (b__law_kernels Fx) (fun σ => L2N.passAt (takesN tk) σ) (da_cons (de_name (pe_var (i := 5) rfl (.inl rfl))) da_nil rfl) (by decide) rfl rfl) rfl rfl)
    (ds_cons (ds_setV (i := 8) sc__law_is_so.nd rfl (.inl rfl) (de_call rfl (ok_rests Fx) (hr.mono (by decide)) rfl (Fx.g 28 rfl) (Fx.d 22 rfl).kp (b_rests Fx) (fun σ => L2.passAt tk σ) (da_cons (de_name (pe_var (i := 4) rfl (.inl rfl))) (da_cons (de_name (pe_var (i := 1) rfl (.inl rfl))) (da_cons (de_rev false rfl (de_callTy call_list_of sim_list bo_list (by decide) (by decide) rfl (Fx.fr 9 rfl) (da_cons (de_name (pe_var (i := 2) rfl (.inl rfl))) da_nil rfl) rfl rfl)) da_nil rfl) rfl) rfl) (by decide) rfl rfl) rfl rfl)
    (ds_cons (ds_setV (i := 9) sc__law_is_so.nd rfl (.inl rfl) (de_call rfl (ok_kernels Fx) (hr.mono (by decide)) rfl (Fx.g 29 rfl) (Fx.d 23 rfl).kp (b_kernels Fx) (fun σ => L2.passAt tk σ) (da_cons (de_name (pe_var (i := 4) rfl (.inl rfl))) (da_cons (de_name (pe_var (i := 1) rfl (.inl rfl))) (da_cons (de_name (pe_var (i := 2) rfl (.inl rfl))) da_nil rfl) rfl) rfl) (by decide) rfl rfl) rfl rfl)
    (ds_cons (ds_if (dt_bool (dw_or (dt_not (dt_tru rfl (de_call rfl (ok__law_sublists_are Fx) (hr.mono (by decide)) rfl (Fx.g 53 rfl) (Fx.d 47 rfl).kp (b__law_sublists_are Fx) (fun σ => L2N.passAt (takesN tk) σ) (da_cons (de_name (pe_var (i := 8) rfl (.inl rfl))) (da_cons (de_name (pe_var (i := 6) rfl (.inr (.inl rfl)))) (da_cons (de_name (pe_var (i := 3) rfl (.inr (.inl rfl)))) da_nil rfl) rfl) rfl) (by decide) rfl rfl) (fun _ => rfl))) (dw_or1 (dt_not (dt_tru rfl (de_call rfl (ok__law_sublists_are Fx) (hr.mono (by decide)) rfl (Fx.g 53 rfl) (Fx.d 47 rfl).kp (b__law_sublists_are Fx) (fun σ => L2N.passAt (takesN tk) σ) (da_cons (de_name (pe_var (i := 9) rfl (.inl rfl))) (da_cons (de_name (pe_var (i := 7) rfl (.inl rfl))) (da_cons (de_name (pe_var (i := 3) rfl (.inr (.inl rfl)))) da_nil rfl) rfl) rfl) (by decide) rfl rfl) (fun _ => rfl)))))) (ds_one (ds_ret de_bl)) ds_nil)
    (ds_cons (ds_setV (i := 10) sc__law_is_so.nd rfl (.inl rfl) (de_call rfl (ok_hitting Fx) (hr.mono (by decide)) rfl (Fx.g 30 rfl) (Fx.d 24 rfl).kp (b_hitting Fx) (fun σ => L2.passAt tk σ) (da_cons (de_callTy call_list_of sim_list bo_list (by decide) (by decide) rfl (Fx.fr 9 rfl) (da_cons (de_name (pe_var (i := 9) rfl (.inl rfl))) da_nil rfl) rfl rfl) (da_cons (de_name (pe_var (i := 3) rfl (.inr (.inl rfl)))) da_nil rfl) rfl) (by decide) rfl rfl) rfl rfl)
    (ds_cons (ds_if (dt_not (dt_tru rfl (de_call rfl (ok__law_sublists_are Fx) (hr.mono (by decide)) rfl (Fx.g 53 rfl) (Fx.d 47 rfl).kp (b__law_sublists_are Fx) (fun σ => L2N.passAt (takesN tk) σ) (da_cons (de_name (pe_var (i := 10) rfl (.inl rfl))) (da_cons (de_call rfl (ok__law_hitting Fx) (hr.mono (by decide)) rfl (Fx.g 54 rfl) (Fx.d 48 rfl).kp (b__law_hitting Fx) (fun σ => L2N.passAt (takesN tk) σ) (da_cons (de_name (pe_var (i := 7) rfl (.inl rfl))) (da_cons (de_name (pe_var (i := 3) rfl (.inr (.inl rfl)))) da_nil rfl) rfl) (by decide) rfl rfl) (da_cons (de_name (pe_var (i := 3) rfl (.inr (.inl rfl)))) da_nil rfl) rfl) rfl) (by decide) rfl rfl) (fun _ => rfl))) (ds_one (ds_ret de_bl)) ds_nil)
    (ds_cons (ds_if (dt_cmp (op_neD (hu64 hr)) sim_ne (de_call rfl (ok__law_ordered Fx) (hr.mono (by decide)) rfl (Fx.g 55 rfl) (Fx.d 49 rfl).kp (b__law_ordered Fx) (fun σ => L2N.passAt (takesN tk) σ) (da_cons (de_lc false (own := [("_law_sublist", 13)]) rfl sc__law_is_so.nd (di_any rfl (de_name (pe_var (i := 10) rfl (.inl rfl)))) (blkOk_by rfl) (fun _ _ _ _ _ => (pg_name (i := 13) sc__law_is_so.nd rfl (.inl rfl) (.inr rfl))) simG_name (by decide) (fun _ _ _ _ _ => dts_nil) (fun _ _ _ _ _ => (de_call rfl (ok_left_out Fx) (hr.mono (by decide)) rfl (Fx.g 31 rfl) (Fx.d 25 rfl).kp (b_left_out Fx) pnoN (da_cons (de_name (pe_var (i := 13) rfl (.inl rfl))) (da_cons (de_name (pe_var (i := 3) rfl (.inr (.inl rfl)))) da_nil rfl) rfl) (by decide) rfl rfl)) (fun _ => rfl)) (da_cons (de_name (pe_var (i := 3) rfl (.inr (.inl rfl)))) da_nil rfl) rfl) (by decide) rfl rfl) (de_callTy call_list_of sim_list bo_list (by decide) (by decide) rfl (Fx.fr 9 rfl) (da_cons (de_name (pe_var (i := 8) rfl (.inl rfl))) da_nil rfl) rfl rfl) (nomark _)) (ds_one (ds_ret de_bl)) ds_nil)
    (ds_cons (ds_setV (i := 11) sc__law_is_so.nd rfl (.inl rfl) (de_call rfl (ok_hitting Fx) (hr.mono (by decide)) rfl (Fx.g 30 rfl) (Fx.d 24 rfl).kp (b_hitting Fx) (fun σ => L2.passAt tk σ) (da_cons (de_lc false (own := [("_law_sublist", 13)]) rfl sc__law_is_so.nd (di_any rfl (de_name (pe_var (i := 8) rfl (.inl rfl)))) (blkOk_by rfl) (fun _ _ _ _ _ => (pg_name (i := 13) sc__law_is_so.nd rfl (.inl rfl) (.inr rfl))) simG_name (by decide) (fun _ _ _ _ _ => dts_nil) (fun _ _ _ _ _ => (de_call rfl (ok_left_out Fx) (hr.mono (by decide)) rfl (Fx.g 31 rfl) (Fx.d 25 rfl).kp (b_left_out Fx) pnoN (da_cons (de_name (pe_var (i := 13) rfl (.inl rfl))) (da_cons (de_name (pe_var (i := 3) rfl (.inr (.inl rfl)))) da_nil rfl) rfl) (by decide) rfl rfl)) (fun _ => rfl)) (da_cons (de_name (pe_var (i := 3) rfl (.inr (.inl rfl)))) da_nil rfl) rfl) (by decide) rfl rfl) rfl rfl)
    (ds_cons (ds_if (dt_not (dt_tru rfl (de_call rfl (ok__law_sublists_are Fx) (hr.mono (by decide)) rfl (Fx.g 53 rfl) (Fx.d 47 rfl).kp (b__law_sublists_are Fx) (fun σ => L2N.passAt (takesN tk) σ) (da_cons (de_name (pe_var (i := 11) rfl (.inl rfl))) (da_cons (de_name (pe_var (i := 7) rfl (.inl rfl))) (da_cons (de_name (pe_var (i := 3) rfl (.inr (.inl rfl)))) da_nil rfl) rfl) rfl) (by decide) rfl rfl) (fun _ => rfl))) (ds_one (ds_ret de_bl)) ds_nil)
    (ds_cons (ds_setLc false (i := 12) (own := [("_law_place", 15)]) rfl sc__law_is_so.nd rfl rfl rfl (di_range1 rfl (Fx.fr 11 rfl) (da_cons (de_name (pe_var (i := 3) rfl (.inr (.inl rfl)))) da_nil rfl) rfl) (blkOk_by rfl) (fun _ _ _ _ _ => (pg_name (i := 15) sc__law_is_so.nd rfl (.inr rfl) (.inl rfl))) simG_name (by decide) (fun _ _ _ _ _ => (dts_one (dt_cmp (op_eqD (hu64 hr)) sim_eq (de_callB call_len sim_len bo_len (by decide) (by decide) rfl (Fx.fr 1 rfl) (da_cons (de_lc false (own := [("_law_one", 14)]) rfl sc__law_is_so.nd (di_any rfl (de_name (pe_var (i := 6) rfl (.inr (.inl rfl))))) (blkOk_by rfl) (fun _ _ _ _ _ => (pg_name (i := 14) sc__law_is_so.nd rfl (.inl rfl) (.inr rfl))) simG_name (by decide) (fun _ _ _ _ _ => (dts_one (dt_cmp (op_notInT (hu65 hr)) sim_in (de_name (pe_var (i := 15) rfl (.inr (.inl rfl)))) (de_name (pe_var (i := 14) rfl (.inl rfl))) rfl))) (fun _ _ _ _ _ => (de_name (pe_var (i := 14) rfl (.inl rfl)))) (fun _ => rfl)) da_nil rfl) rfl rfl) de_int (nomark _)))) (fun _ _ _ _ _ => (de_name (pe_var (i := 15) rfl (.inr (.inl rfl))))) (fun _ => rfl))
    (ds_cons (ds_if (dt_not (dt_tru rfl (de_call rfl (ok__law_sublists_are Fx) (hr.mono (by decide)) rfl (Fx.g 53 rfl) (Fx.d 47 rfl).kp (b__law_sublists_are Fx) (fun σ => L2N.passAt (takesN tk) σ) (da_cons (de_tup (da_cons (de_call rfl (ok_in_every_rest Fx) (hr.mono (by decide)) rfl (Fx.g 32 rfl) (Fx.d 26 rfl).kp (b_in_every_rest Fx) (fun σ => L2.passAt tk σ) (da_cons (de_name (pe_var (i := 4) rfl (.inl rfl))) (da_cons (de_name (pe_var (i := 1) rfl (.inl rfl))) (da_cons (de_name (pe_var (i := 2) rfl (.inl rfl))) da_nil rfl) rfl) rfl) (by decide) rfl rfl) da_nil rfl)) (da_cons (de_lst false (da_cons (de_callTy call_tuple_of sim_tuple bo_tuple (by decide) (by decide) rfl (Fx.fr 10 rfl) (da_cons (de_name (pe_var (i := 12) rfl (.inl rfl))) da_nil rfl) rfl rfl) da_nil rfl)) (da_cons (de_name (pe_var (i := 3) rfl (.inr (.inl rfl)))) da_nil rfl) rfl) rfl) (by decide) rfl rfl) (fun _ => rfl))) (ds_one (ds_ret de_bl)) ds_nil)
    (ds_cons (ds_if (dt_not (dt_tru rfl (de_call rfl (ok__law_sublists_are Fx) (hr.mono (by decide)) rfl (Fx.g 53 rfl) (Fx.d 47 rfl).kp (b__law_sublists_are Fx) (fun σ => L2N.passAt (takesN tk) σ) (da_cons (de_tup (da_cons (de_call rfl (ok_in_no_kernel Fx) (hr.mono (by decide)) rfl (Fx.g 33 rfl) (Fx.d 27 rfl).kp (b_in_no_kernel Fx) (fun σ => L2.passAt tk σ) (da_cons (de_name (pe_var (i := 4) rfl (.inl rfl))) (da_cons (de_name (pe_var (i := 1) rfl (.inl rfl))) (da_cons (de_name (pe_var (i := 2) rfl (.inl rfl))) da_nil rfl) rfl) rfl) (by decide) rfl rfl) da_nil rfl)) (da_cons (de_lst false (da_cons (de_callTy call_tuple_of sim_tuple bo_tuple (by decide) (by decide) rfl (Fx.fr 10 rfl) (da_cons (de_name (pe_var (i := 12) rfl (.inl rfl))) da_nil rfl) rfl rfl) da_nil rfl)) (da_cons (de_name (pe_var (i := 3) rfl (.inr (.inl rfl)))) da_nil rfl) rfl) rfl) (by decide) rfl rfl) (fun _ => rfl))) (ds_one (ds_ret de_bl)) ds_nil)
    (ds_cons (ds_for (L2.passes_of rfl) rfl (di_any rfl (de_call rfl (ok__law_lots Fx) (hr.mono (by decide)) rfl (Fx.g 39 rfl) (Fx.d 33 rfl).kp (b__law_lots Fx) (fun σ => L2N.passAt (takesN tk) σ) (da_cons (de_name (pe_var (i := 3) rfl (.inr (.inl rfl)))) da_nil rfl) (by decide) rfl rfl)) (pg_name (i := 13) sc__law_is_so.nd rfl (.inl rfl) (.inl rfl)) simG_name (ds_cons (ds_if (dt_not (dt_tru rfl (de_call rfl (ok__law_same Fx) (hr.mono (by decide)) rfl (Fx.g 46 rfl) (Fx.d 40 rfl).kp (b__law_same Fx) (fun σ => L2N.passAt (takesN tk) σ) (da_cons (de_call rfl (ok_is_rest Fx) (hr.mono (by decide)) rfl (Fx.g 34 rfl) (Fx.d 28 rfl).kp (b_is_rest Fx) (fun σ => L2.passAt tk σ) (da_cons (de_name (pe_var (i := 4) rfl (.inl rfl))) (da_cons (de_name (pe_var (i := 1) rfl (.inl rfl))) (da_cons (de_name (pe_var (i := 2) rfl (.inl rfl))) (da_cons (de_rev false rfl (de_name (pe_var (i := 13) rfl (.inl rfl)))) da_nil rfl) rfl) rfl) rfl) (by decide) rfl rfl) (da_cons (de_cmp (op_inT (hu65 hr)) sim_in (de_name (pe_var (i := 13) rfl (.inl rfl))) (de_name (pe_var (i := 6) rfl (.inr (.inl rfl)))) rfl) da_nil rfl) rfl) (by decide) rfl rfl) (fun _ => rfl))) (ds_one (ds_ret de_bl)) ds_nil)
    (ds_one (ds_if (dt_not (dt_tru rfl (de_call rfl (ok__law_same Fx) (hr.mono (by decide)) rfl (Fx.g 46 rfl) (Fx.d 40 rfl).kp (b__law_same Fx) (fun σ => L2N.passAt (takesN tk) σ) (da_cons (de_call rfl (ok_carries Fx) (hr.mono (by decide)) rfl (Fx.g 21 rfl) (Fx.d 15 rfl).kp (b_carries Fx) (fun σ => L2.passAt tk σ) (da_cons (de_name (pe_var (i := 4) rfl (.inl rfl))) (da_cons (de_name (pe_var (i := 1) rfl (.inl rfl))) (da_cons (de_name (pe_var (i := 13) rfl (.inl rfl))) (da_cons (de_name (pe_var (i := 2) rfl (.inl rfl))) da_nil rfl) rfl) rfl) rfl) (by decide) rfl rfl) (da_cons (de_cmp (op_inT (hu65 hr)) sim_in (de_name (pe_var (i := 13) rfl (.inl rfl))) (de_name (pe_var (i := 5) rfl (.inl rfl))) rfl) da_nil rfl) rfl) (by decide) rfl rfl) (fun _ => rfl))) (ds_one (ds_ret de_bl)) ds_nil))) (fun _ => rfl))
    (ds_one (ds_ret (de_cmp (op_eqD (hu64 hr)) sim_eq (de_name (pe_var (i := 4) rfl (.inl rfl))) (de_lc false (own := [("_law_one", 14)]) rfl sc__law_is_so.nd (di_any rfl (de_name (pe_var (i := 0) rfl (.inl rfl)))) (blkOk_by rfl) (fun _ _ _ _ _ => (pg_name (i := 14) sc__law_is_so.nd rfl (.inl rfl) (.inr rfl))) simG_name (by decide) (fun _ _ _ _ _ => dts_nil) (fun _ _ _ _ _ => (de_rev false rfl (de_callTy call_list_of sim_list bo_list (by decide) (by decide) rfl (Fx.fr 9 rfl) (da_cons (de_name (pe_var (i := 14) rfl (.inl rfl))) da_nil rfl) rfl rfl))) (fun _ => rfl)) (nomark _)))))))))))))))))))))
theorem b__law_is_so (Fx : FX preds globs frees fnl K mg) : Binds K (fdOf K ("_law_is_so", none)) ["_law_base_here", "_law_worlds", "_law_lot_here"] [] := (Fx.d 50 rfl).bindsN fun _ _ _ _ _ _ us hl => match us, hl with | [_, _, _], _ => rfl
theorem sc__law_refused : FnScope ["_law_base_here", "_law_worlds", "_law_sublist", "_law_told", "raised"] ["_law_base_here", "_law_worlds", "_law_sublist"] (defScope (top 62)) := ⟨rfl, rfl, rfl, by decide +kernel, rfl, by decide +kernel, by decide +kernel⟩
theorem ok__law_refused (Fx : FX preds globs frees fnl K mg) : FnOk P w K mg base (L2.CX P w) 8 (He.ga K "_law_refused") (fdOf K ("_law_refused", none)) ["_law_base_here", "_law_worlds", "_law_sublist"] (spF K (clK clsN K) 3 F__law_refused) :=
  fn_hot false (Fx.d 51 rfl) sc__law_refused fun H0 mu0 W cdv A outer s H E hr tk =>
    (ds_cons (ds_setV (i := 3) sc__law_refused.nd rfl (.inl rfl) (de_tup (da_cons de_str (da_cons de_int da_nil rfl) rfl)) rfl rfl)
    (ds_cons (ds_tryAs rfl rfl rfl sc__law_refused.nd tk (fun W pn xe tkB hpB => (ds_one (ds_expr (de_call rfl (ok_sublist_of Fx) (hr.mono (by decide)) rfl (Fx.g 19 rfl) (Fx.d 13 rfl).kp (b_sublist_of Fx) (fun σ => L2.passAt tkB σ) (da_cons (de_name (pe_var (i := 0) rfl (.inl rfl))) (da_cons (de_name (pe_var (i := 1) rfl (.inl rfl))) (da_cons (de_name (pe_var (i := 2) rfl (.inl rfl))) da_nil rfl) rfl) rfl) (by decide) rfl rfl) rfl))) (.cons (i := 4) rfl rfl ⟨rfl, by decide, .inl (Fx.g 4 rfl)⟩ (catB_ok rfl rfl (Fx.p 10 rfl)) (fun H0 mu0 fl a oe cls d pn ins hz hf => (ds_one (ds_setV (i := 3) sc__law_refused.nd rfl (.inl rfl) (de_tup (da_cons de_str (da_cons (de_xf rfl ins (fun c Cc hc => (xf_at (names := clsN) (f := "place") rfl (Fx.p 7 rfl) hc).1) (fun c Cc hc => (xf_at (names := clsN) (f := "place") rfl (Fx.p 7 rfl) hc).2) hz hf (pe_var (i := 4) rfl (.inl rfl)) rfl) da_nil rfl) rfl)) rfl rfl))) (.cons (i := 4) rfl rfl ⟨rfl, by decide, .inl (Fx.g 5 rfl)⟩ (catB_ok rfl rfl (Fx.p 9 rfl)) (fun H0 mu0 fl a oe cls d pn ins hz hf => (ds_one (ds_setV (i := 3) sc__law_refused.nd rfl (.inl rfl) (de_tup (da_cons de_str (da_cons (de_xf rfl ins (fun c Cc hc => (xf_at (names := clsN) (f := "limit") rfl (Fx.p 8 rfl) hc).1) (fun c Cc hc => (xf_at (names := clsN) (f := "limit") rfl (Fx.p 8 rfl) hc).2) hz hf (pe_var (i := 4) rfl (.inl rfl)) rfl) da_nil rfl) rfl)) rfl rfl))) (.cons (i := 4) rfl rfl ⟨rfl, by decide, .inl (Fx.g 3 rfl)⟩ (catB_ok rfl rfl (Fx.p 6 rfl)) (fun H0 mu0 fl a oe cls d pn ins hz hf => (ds_one (ds_setV (i := 3) sc__law_refused.nd rfl (.inl rfl) (de_tup (da_cons de_str (da_cons (de_xf rfl ins (fun c Cc hc => (xf_at (names := clsN) (f := "place") rfl (Fx.p 7 rfl) hc).1) (fun c Cc hc => (xf_at (names := clsN) (f := "place") rfl (Fx.p 7 rfl) hc).2) hz hf (pe_var (i := 4) rfl (.inl rfl)) rfl) da_nil rfl) rfl)) rfl rfl))) .nil))))
    (ds_one (ds_ret (de_name (pe_var (i := 3) rfl (.inl rfl)))))))
theorem b__law_refused (Fx : FX preds globs frees fnl K mg) : Binds K (fdOf K ("_law_refused", none)) ["_law_base_here", "_law_worlds", "_law_sublist"] [] := (Fx.d 51 rfl).bindsN fun _ _ _ _ _ _ us hl => match us, hl with | [_, _, _], _ => rfl
theorem sc__law_bases_so : FnScope ["_law_draws_here", "_law_base_here", "_law_worlds", "_law_many", "_law_sublist", "_law_at", "_law_bad", "_law_cases", "_law_full", "_law_case", "_law_turn", "_law_lot_here"] ["_law_draws_here", "_law_base_here", "_law_worlds"] (defScope (top 63)) := ⟨rfl, rfl, rfl, by decide +kernel, rfl, by decide +kernel, by decide +kernel⟩
theorem ok__law_bases_so (Fx : FX preds globs frees fnl K mg) : FnOk P w K mg base (L2.CX P w) 9 (He.ga K "_law_bases_so") (fdOf K ("_law_bases_so", none)) ["_law_draws_here", "_law_base_here", "_law_worlds"] (spF K (clK clsN K) 3 F__law_bases_so) :=
  fn_hot false (Fx.d 52 rfl) sc__law_bases_so fun H0 mu0 W cdv A outer s H E hr tk =>
    (ds_cons (ds_setV (i := 3) sc__law_bases_so.nd rfl (.inl rfl) (de_callB call_len sim_len bo_len (by decide) (by decide) rfl (Fx.fr 1 rfl) (da_cons (de_name (pe_var (i := 1) rfl (.inl rfl))) da_nil rfl) rfl rfl) rfl rfl)
    (ds_cons (ds_if (dt_not (dt_tru rfl (de_call rfl (ok__law_sublists_are Fx) (hr.mono (by decide)) rfl (Fx.g 53 rfl) (Fx.d 47 rfl).kp (b__law_sublists_are Fx) (fun σ => L2N.passAt (takesN tk) σ) (da_cons (de_call rfl (ok_base_of Fx) (hr.mono (by decide)) rfl (Fx.g 17 rfl) (Fx.d 11 rfl).kp (b_base_of Fx) (fun σ => L2.passAt tk σ) (da_cons (de_lc false (own := [("_law_lot_here", 11)]) rfl sc__law_bases_so.nd (di_any rfl (de_name (pe_var (i := 1) rfl (.inl rfl)))) (blkOk_by rfl) (fun _ _ _ _ _ => (pg_name (i := 11) sc__law_bases_so.nd rfl (.inl rfl) (.inr rfl))) simG_name (by decide) (fun _ _ _ _ _ => dts_nil) (fun _ _ _ _ _ => (de_rev false rfl (de_callTy call_list_of sim_list bo_list (by decide) (by decide) rfl (Fx.fr 9 rfl) (da_cons (de_name (pe_var (i := 11) rfl (.inl rfl))) da_nil rfl) rfl rfl))) (fun _ => rfl)) (da_cons (de_name (pe_var (i := 2) rfl (.inl rfl))) da_nil rfl) rfl) (by decide) rfl rfl) (da_cons (de_name (pe_var (i := 1) rfl (.inl rfl))) (da_cons (de_name (pe_var (i := 2) rfl (.inl rfl))) da_nil rfl) rfl) rfl) (by decide) rfl rfl) (fun _ => rfl))) (ds_one (ds_ret de_bl)) ds_nil)
    (ds_cons (ds_setV (i := 4) sc__law_bases_so.nd rfl (.inl rfl) (de_call rfl (ok__law_lot Fx) (hr.mono (by decide)) rfl (Fx.g 40 rfl) (Fx.d 34 rfl).kp (b__law_lot Fx) (fun σ => L2N.passAt (takesN tk) σ) (da_cons (de_name (pe_var (i := 0) rfl (.inl rfl))) (da_cons (de_name (pe_var (i := 3) rfl (.inl rfl))) da_nil rfl) rfl) (by decide) rfl rfl) rfl rfl)
    (ds_cons (ds_if (dt_not (dt_tru rfl (de_call rfl (ok__law_sublists_are Fx) (hr.mono (by decide)) rfl (Fx.g 53 rfl) (Fx.d 47 rfl).kp (b__law_sublists_are Fx) (fun σ => L2N.passAt (takesN tk) σ) (da_cons (de_tup (da_cons (de_call rfl (ok_sublist_of Fx) (hr.mono (by decide)) rfl (Fx.g 19 rfl) (Fx.d 13 rfl).kp (b_sublist_of Fx) (fun σ => L2.passAt tk σ) (da_cons (de_name (pe_var (i := 1) rfl (.inl rfl))) (da_cons (de_name (pe_var (i := 2) rfl (.inl rfl))) (da_cons (de_rev false rfl (de_callTy call_list_of sim_list bo_list (by decide) (by decide) rfl (Fx.fr 9 rfl) (da_cons (de_name (pe_var (i := 4) rfl (.inl rfl))) da_nil rfl) rfl rfl)) da_nil rfl) rfl) rfl) (by decide) rfl rfl) da_nil rfl)) (da_cons (de_lst false (da_cons (de_name (pe_var (i := 4) rfl (.inl rfl))) da_nil rfl)) (da_cons (de_name (pe_var (i := 3) rfl (.inl rfl))) da_nil rfl) rfl) rfl) (by decide) rfl rfl) (fun _ => rfl))) (ds_one (ds_ret de_bl)) ds_nil)
    (ds_cons (ds_setV (i := 5) sc__law_bases_so.nd rfl (.inl rfl) (de_call rfl (ok__law_take Fx) (hr.mono (by decide)) rfl (Fx.g 36 rfl) (Fx.d 30 rfl).kp (b__law_take Fx) (fun σ => L2N.passAt (takesN tk) σ) (da_cons (de_name (pe_var (i := 0) rfl (.inl rfl))) (da_cons (de_add rfl (de_name (pe_var (i := 3) rfl (.inl rfl))) de_int) da_nil rfl) rfl) (by decide) rfl rfl) rfl rfl)
    (ds_cons (ds_setV (i := 6) sc__law_bases_so.nd rfl (.inl rfl) (de_ix rfl (de_lst false (da_cons de_int (da_cons (de_tup (da_cons (de_name (pe_var (i := 2) rfl (.inl rfl))) da_nil rfl)) (da_cons (de_tup (da_cons de_int (da_cons de_int da_nil rfl) rfl)) (da_cons (de_tup (da_cons de_bl da_nil rfl)) (da_cons de_str (da_cons de_non da_nil rfl) rfl) rfl) rfl) rfl) rfl)) (de_call rfl (ok__law_take Fx) (hr.mono (by decide)) rfl (Fx.g 36 rfl) (Fx.d 30 rfl).kp (b__law_take Fx) (fun σ => L2N.passAt (takesN tk) σ) (da_cons (de_name (pe_var (i := 0) rfl (.inl rfl))) (da_cons de_int da_nil rfl) rfl) (by decide) rfl rfl) (fun _ _ => rfl)) rfl rfl)
    (ds_cons (ds_setV (i := 7) sc__law_bases_so.nd rfl (.inl rfl) (de_lst false (da_cons (de_tup (da_cons de_non (da_cons (de_name (pe_var (i := 4) rfl (.inl rfl))) (da_cons de_str (da_cons (de_neg de_int) da_nil rfl) rfl) rfl) rfl)) (da_cons (de_tup (da_cons de_str (da_cons de_non (da_cons de_str (da_cons (de_neg de_int) da_nil rfl) rfl) rfl) rfl)) (da_cons (de_tup (da_cons (de_add rfl (de_add rfl (de_slice false rfl (de_name (pe_var (i := 1) rfl (.inl rfl))) dp_no (dp_so (de_name (pe_var (i := 5) rfl (.inl rfl))))) (de_lst false (da_cons (de_name (pe_var (i := 6) rfl (.inl rfl))) da_nil rfl))) (de_slice false rfl (de_name (pe_var (i := 1) rfl (.inl rfl))) (dp_so (de_name (pe_var (i := 5) rfl (.inl rfl)))) dp_no)) (da_cons de_non (da_cons de_str (da_cons (de_name (pe_var (i := 5) rfl (.inl rfl))) da_nil rfl) rfl) rfl) rfl)) da_nil rfl) rfl) rfl)) rfl rfl)
    (ds_cons (ds_setV (i := 8) sc__law_bases_so.nd rfl (.inl rfl) (de_add rfl (de_name (pe_var (i := 1) rfl (.inl rfl))) (de_lc false (own := [("_law_turn", 10)]) rfl sc__law_bases_so.nd (di_range1 rfl (Fx.fr 11 rfl) (da_cons (de_sub de_int (de_name (pe_var (i := 3) rfl (.inl rfl)))) da_nil rfl) rfl) (blkOk_by rfl) (fun _ _ _ _ _ => (pg_name (i := 10) sc__law_bases_so.nd rfl (.inl rfl) (.inr rfl))) simG_name (by decide) (fun _ _ _ _ _ => dts_nil) (fun _ _ _ _ _ => (de_tup (da_cons de_int da_nil rfl))) (fun _ => rfl))) rfl rfl)
    (ds_cons (ds_setV (i := 7) sc__law_bases_so.nd rfl (.inl rfl) (de_add rfl (de_name (pe_var (i := 7) rfl (.inl rfl))) (de_lst false (da_cons (de_tup (da_cons (de_name (pe_var (i := 8) rfl (.inl rfl))) (da_cons de_non (da_cons de_str (da_cons de_int da_nil rfl) rfl) rfl) rfl)) (da_cons (de_tup (da_cons (de_add rfl (de_name (pe_var (i := 8) rfl (.inl rfl))) (de_lst false (da_cons (de_name (pe_var (i := 6) rfl (.inl rfl))) da_nil rfl))) (da_cons de_non (da_cons de_str (da_cons de_int da_nil rfl) rfl) rfl) rfl)) (da_cons (de_tup (da_cons (de_name (pe_var (i := 1) rfl (.inl rfl))) (da_cons de_non (da_cons de_str (da_cons (de_neg de_int) da_nil rfl) rfl) rfl) rfl)) da_nil rfl) rfl) rfl))) rfl rfl)
    (ds_cons (ds_setV (i := 7) sc__law_bases_so.nd rfl (.inl rfl) (de_add rfl (de_name (pe_var (i := 7) rfl (.inl rfl))) (de_lst false (da_cons (de_tup (da_cons (de_name (pe_var (i := 1) rfl (.inl rfl))) (da_cons (de_add rfl (de_name (pe_var (i := 4) rfl (.inl rfl))) (de_tup (da_cons (de_name (pe_var (i := 3) rfl (.inl rfl))) da_nil rfl))) (da_cons de_str (da_cons (de_callB call_len sim_len bo_len (by decide) (by decide) rfl (Fx.fr 1 rfl) (da_cons (de_name (pe_var (i := 4) rfl (.inl rfl))) da_nil rfl) rfl rfl) da_nil rfl) rfl) rfl) rfl)) da_nil rfl))) rfl rfl)
    (ds_cons (ds_setV (i := 7) sc__law_bases_so.nd rfl (.inl rfl) (de_add rfl (de_name (pe_var (i := 7) rfl (.inl rfl))) (de_lst false (da_cons (de_tup (da_cons (de_name (pe_var (i := 1) rfl (.inl rfl))) (da_cons (de_add rfl (de_name (pe_var (i := 4) rfl (.inl rfl))) (de_tup (da_cons de_bl da_nil rfl))) (da_cons de_str (da_cons (de_callB call_len sim_len bo_len (by decide) (by decide) rfl (Fx.fr 1 rfl) (da_cons (de_name (pe_var (i := 4) rfl (.inl rfl))) da_nil rfl) rfl rfl) da_nil rfl) rfl) rfl) rfl)) da_nil rfl))) rfl rfl)
    (ds_cons (ds_for (L2.passes_of rfl) rfl (di_any rfl (de_name (pe_var (i := 7) rfl (.inl rfl)))) (pg_name (i := 9) sc__law_bases_so.nd rfl (.inl rfl) (.inl rfl)) simG_name (ds_one (ds_if (dt_cmp (op_neD (hu64 hr)) sim_ne (de_call rfl (ok__law_refused Fx) (hr.mono (by decide)) rfl (Fx.g 57 rfl) (Fx.d 51 rfl).kp (b__law_refused Fx) (fun σ => L2.passAt tk σ) (da_cons (de_ix rfl (de_name (pe_var (i := 9) rfl (.inl rfl))) de_int (fun _ _ => rfl)) (da_cons (de_name (pe_var (i := 2) rfl (.inl rfl))) (da_cons (de_ix rfl (de_name (pe_var (i := 9) rfl (.inl rfl))) de_int (fun _ _ => rfl)) da_nil rfl) rfl) rfl) (by decide) rfl rfl) (de_tup (da_cons (de_ix rfl (de_name (pe_var (i := 9) rfl (.inl rfl))) de_int (fun _ _ => rfl)) (da_cons (de_ix rfl (de_name (pe_var (i := 9) rfl (.inl rfl))) de_int (fun _ _ => rfl)) da_nil rfl) rfl)) (nomark _)) (ds_one (ds_ret de_bl)) ds_nil)) (fun _ => rfl))
    (ds_cons (ds_if (dt_cmp (op_neD (hu64 hr)) sim_ne (de_call rfl (ok__law_refused Fx) (hr.mono (by decide)) rfl (Fx.g 57 rfl) (Fx.d 51 rfl).kp (b__law_refused Fx) (fun σ => L2.passAt tk σ) (da_cons (de_slice false rfl (de_name (pe_var (i := 8) rfl (.inl rfl))) (dp_so de_int) dp_no) (da_cons (de_name (pe_var (i := 2) rfl (.inl rfl))) (da_cons (de_tup da_nil) da_nil rfl) rfl) rfl) (by decide) rfl rfl) (de_tup (da_cons de_str (da_cons de_int da_nil rfl) rfl)) (nomark _)) (ds_one (ds_ret de_bl)) ds_nil)
    (ds_one (ds_ret (de_or (de_cmp (op_eqD (hu64 hr)) sim_eq (de_callB call_len sim_len bo_len (by decide) (by decide) rfl (Fx.fr 1 rfl) (da_cons (de_name (pe_var (i := 4) rfl (.inl rfl))) da_nil rfl) rfl rfl) de_int (nomark _)) (de_one (de_cmp (op_eqD (hu64 hr)) sim_eq (de_call rfl (ok__law_refused Fx) (hr.mono (by decide)) rfl (Fx.g 57 rfl) (Fx.d 51 rfl).kp (b__law_refused Fx) (fun σ => L2.passAt tk σ) (da_cons (de_name (pe_var (i := 1) rfl (.inl rfl))) (da_cons (de_name (pe_var (i := 2) rfl (.inl rfl))) (da_cons (de_add rfl (de_name (pe_var (i := 4) rfl (.inl rfl))) (de_slice false rfl (de_name (pe_var (i := 4) rfl (.inl rfl))) dp_no (dp_so de_int))) da_nil rfl) rfl) rfl) (by decide) rfl rfl) (de_tup (da_cons de_str (da_cons (de_callB call_len sim_len bo_len (by decide) (by decide) rfl (Fx.fr 1 rfl) (da_cons (de_name (pe_var (i := 4) rfl (.inl rfl))) da_nil rfl) rfl rfl) da_nil rfl) rfl)) (nomark _)))))))))))))))))))
theorem b__law_bases_so (Fx : FX preds globs frees fnl K mg) : Binds K (fdOf K ("_law_bases_so", none)) ["_law_draws_here", "_law_base_here", "_law_worlds"] [] := (Fx.d 52 rfl).bindsN fun _ _ _ _ _ _ us hl => match us, hl with | [_, _, _], _ => rfl
theorem sc__law_whole_refused : FnScope ["_law_door", "_law_base_here", "_law_worlds", "_law_whole", "_law_place", "raised"] ["_law_door", "_law_base_here", "_law_worlds"] (defScope (top 64)) := ⟨rfl, rfl, rfl, by decide +kernel, rfl, by decide +kernel, by decide +kernel⟩
theorem ok__law_whole_refused (Fx : FX preds globs frees fnl K mg) : FnOk P w K mg base (L2.CX P w) 9 (He.ga K "_law_whole_refused") (fdOf K ("_law_whole_refused", none)) ["_law_door", "_law_base_here", "_law_worlds"] (spF K (clK clsN K) 3 F__law_whole_refused) :=
  fn_hot false (Fx.d 53 rfl) sc__law_whole_refused fun H0 mu0 W cdv A outer s H E hr tk =>
    (ds_cons (ds_setV (i := 3) sc__law_whole_refused.nd rfl (.inl rfl) (de_tupRg rfl rfl (Fx.fr 10 rfl) (dr_1 rfl (Fx.fr 11 rfl) (de_name (pe_var (i := 2) rfl (.inl rfl))) rfl) rfl) rfl rfl)
    (ds_cons (ds_setV (i := 4) sc__law_whole_refused.nd rfl (.inl rfl) de_int rfl rfl)
    (ds_cons (ds_tryAs rfl rfl rfl sc__law_whole_refused.nd tk (fun W pn xe tkB hpB => (ds_one (ds_if (dt_cmp (op_eqD (hu64 hr)) sim_eq (de_name (pe_var (i := 0) rfl (.inl rfl))) de_int (nomark _)) (ds_one (ds_expr (de_call rfl (ok_rests Fx) (hr.mono (by decide)) rfl (Fx.g 28 rfl) (Fx.d 22 rfl).kp (b_rests Fx) (fun σ => L2.passAt tkB σ) (da_cons (de_name (pe_var (i := 1) rfl (.inl rfl))) (da_cons (de_name (pe_var (i := 2) rfl (.inl rfl))) (da_cons (de_name (pe_var (i := 3) rfl (.inl rfl))) da_nil rfl) rfl) rfl) (by decide) rfl rfl) rfl)) (ds_one (ds_if (dt_cmp (op_eqD (hu64 hr)) sim_eq (de_name (pe_var (i := 0) rfl (.inl rfl))) de_int (nomark _)) (ds_one (ds_expr (de_call rfl (ok_kernels Fx) (hr.mono (by decide)) rfl (Fx.g 29 rfl) (Fx.d 23 rfl).kp (b_kernels Fx) (fun σ => L2.passAt tkB σ) (da_cons (de_name (pe_var (i := 1) rfl (.inl rfl))) (da_cons (de_name (pe_var (i := 2) rfl (.inl rfl))) (da_cons (de_name (pe_var (i := 3) rfl (.inl rfl))) da_nil rfl) rfl) rfl) (by decide) rfl rfl) rfl)) (ds_one (ds_if (dt_cmp (op_eqD (hu64 hr)) sim_eq (de_name (pe_var (i := 0) rfl (.inl rfl))) de_int (nomark _)) (ds_one (ds_expr (de_call rfl (ok_in_every_rest Fx) (hr.mono (by decide)) rfl (Fx.g 32 rfl) (Fx.d 26 rfl).kp (b_in_every_rest Fx) (fun σ => L2.passAt tkB σ) (da_cons (de_name (pe_var (i := 1) rfl (.inl rfl))) (da_cons (de_name (pe_var (i := 2) rfl (.inl rfl))) (da_cons (de_name (pe_var (i := 3) rfl (.inl rfl))) da_nil rfl) rfl) rfl) (by decide) rfl rfl) rfl)) (ds_one (ds_if (dt_cmp (op_eqD (hu64 hr)) sim_eq (de_name (pe_var (i := 0) rfl (.inl rfl))) de_int (nomark _)) (ds_one (ds_expr (de_call rfl (ok_in_no_kernel Fx) (hr.mono (by decide)) rfl (Fx.g 33 rfl) (Fx.d 27 rfl).kp (b_in_no_kernel Fx) (fun σ => L2.passAt tkB σ) (da_cons (de_name (pe_var (i := 1) rfl (.inl rfl))) (da_cons (de_name (pe_var (i := 2) rfl (.inl rfl))) (da_cons (de_name (pe_var (i := 3) rfl (.inl rfl))) da_nil rfl) rfl) rfl) (by decide) rfl rfl) rfl)) (ds_one (ds_expr (de_call rfl (ok_is_rest Fx) (hr.mono (by decide)) rfl (Fx.g 34 rfl) (Fx.d 28 rfl).kp (b_is_rest Fx) (fun σ => L2.passAt tkB σ) (da_cons (de_name (pe_var (i := 1) rfl (.inl rfl))) (da_cons (de_name (pe_var (i := 2) rfl (.inl rfl))) (da_cons (de_name (pe_var (i := 3) rfl (.inl rfl))) (da_cons de_non da_nil rfl) rfl) rfl) rfl) (by decide) rfl rfl) rfl))))))))))) (.cons (i := 5) rfl rfl ⟨rfl, by decide, .inl (Fx.g 2 rfl)⟩ (catB_ok rfl rfl (Fx.p 3 rfl)) (fun H0 mu0 fl a oe cls d pn ins hz hf => (ds_one (ds_setV (i := 4) sc__law_whole_refused.nd rfl (.inl rfl) (de_xf rfl ins (fun c Cc hc => (xf_at (names := clsN) (f := "place") rfl (Fx.p 7 rfl) hc).1) (fun c Cc hc => (xf_at (names := clsN) (f := "place") rfl (Fx.p 7 rfl) hc).2) hz hf (pe_var (i := 5) rfl (.inl rfl)) rfl) rfl rfl))) .nil))
    (ds_one (ds_ret (de_cmp (op_eqD (hu64 hr)) sim_eq (de_name (pe_var (i := 4) rfl (.inl rfl))) (de_neg de_int) (nomark _)))))))
theorem b__law_whole_refused (Fx : FX preds globs frees fnl K mg) : Binds K (fdOf K ("_law_whole_refused", none)) ["_law_door", "_law_base_here", "_law_worlds"] [] := (Fx.d 53 rfl).bindsN fun _ _ _ _ _ _ us hl => match us, hl with | [_, _, _], _ => rfl
theorem sc__law_list_door : FnScope ["_law_door", "_law_told", "raised"] ["_law_door"] (defScope (top 65)) := ⟨rfl, rfl, rfl, by decide +kernel, rfl, by decide +kernel, by decide +kernel⟩
theorem ok__law_list_door (Fx : FX preds globs frees fnl K mg) : FnOk P w K mg base (L2.CX P w) 6 (He.ga K "_law_list_door") (fdOf K ("_law_list_door", none)) ["_law_door"] (spF K (clK clsN K) 1 F__law_list_door) :=
  fn_hot false (Fx.d 54 rfl) sc__law_list_door fun H0 mu0 W cdv A outer s H E hr tk =>
    (ds_cons (ds_setV (i := 1) sc__law_list_door.nd rfl (.inl rfl) (de_tup (da_cons de_str (da_cons de_int da_nil rfl) rfl)) rfl rfl)
    (ds_cons (ds_tryAs rfl rfl rfl sc__law_list_door.nd tk (fun W pn xe tkB hpB => (ds_one (ds_if (dt_cmp (op_eqD (hu64 hr)) sim_eq (de_name (pe_var (i := 0) rfl (.inl rfl))) de_int (nomark _)) (ds_one (ds_expr (de_call rfl (ok_hitting Fx) (hr.mono (by decide)) rfl (Fx.g 30 rfl) (Fx.d 24 rfl).kp (b_hitting Fx) (fun σ => L2.passAt tkB σ) (da_cons de_non (da_cons de_int da_nil rfl) rfl) (by decide) rfl rfl) rfl)) (ds_one (ds_if (dt_cmp (op_eqD (hu64 hr)) sim_eq (de_name (pe_var (i := 0) rfl (.inl rfl))) de_int (nomark _)) (ds_one (ds_expr (de_call rfl (ok_left_out Fx) (hr.mono (by decide)) rfl (Fx.g 31 rfl) (Fx.d 25 rfl).kp (b_left_out Fx) (fun σ => L2N.passAt (takesN tkB) σ) (da_cons de_non (da_cons de_int da_nil rfl) rfl) (by decide) rfl rfl) rfl)) (ds_one (ds_if (dt_cmp (op_eqD (hu64 hr)) sim_eq (de_name (pe_var (i := 0) rfl (.inl rfl))) de_int (nomark _)) (ds_one (ds_expr (de_call rfl (ok_all_sublists Fx) (hr.mono (by decide)) rfl (Fx.g 23 rfl) (Fx.d 17 rfl).kp (b_all_sublists Fx) (fun σ => L2N.passAt (takesN tkB) σ) (da_cons de_int da_nil rfl) (by decide) rfl rfl) rfl)) (ds_one (ds_if (dt_cmp (op_eqD (hu64 hr)) sim_eq (de_name (pe_var (i := 0) rfl (.inl rfl))) de_int (nomark _)) (ds_one (ds_expr (de_call rfl (ok_hitting Fx) (hr.mono (by decide)) rfl (Fx.g 30 rfl) (Fx.d 24 rfl).kp (b_hitting Fx) (fun σ => L2.passAt tkB σ) (da_cons de_non (da_cons de_int da_nil rfl) rfl) (by decide) rfl rfl) rfl)) (ds_one (ds_if (dt_cmp (op_eqD (hu64 hr)) sim_eq (de_name (pe_var (i := 0) rfl (.inl rfl))) de_int (nomark _)) (ds_one (ds_expr (de_call rfl (ok_hitting Fx) (hr.mono (by decide)) rfl (Fx.g 30 rfl) (Fx.d 24 rfl).kp (b_hitting Fx) (fun σ => L2.passAt tkB σ) (da_cons (de_lst false (da_cons (de_tup (da_cons de_int (da_cons de_int da_nil rfl) rfl)) (da_cons (de_tup (da_cons de_int da_nil rfl)) da_nil rfl) rfl)) (da_cons de_int da_nil rfl) rfl) (by decide) rfl rfl) rfl)) (ds_one (ds_if (dt_cmp (op_eqD (hu64 hr)) sim_eq (de_name (pe_var (i := 0) rfl (.inl rfl))) de_int (nomark _)) (ds_one (ds_expr (de_call rfl (ok_left_out Fx) (hr.mono (by decide)) rfl (Fx.g 31 rfl) (Fx.d 25 rfl).kp (b_left_out Fx) (fun σ => L2N.passAt (takesN tkB) σ) (da_cons de_non (da_cons de_int da_nil rfl) rfl) (by decide) rfl rfl) rfl)) (ds_one (ds_expr (de_call rfl (ok_left_out Fx) (hr.mono (by decide)) rfl (Fx.g 31 rfl) (Fx.d 25 rfl).kp (b_left_out Fx) (fun σ => L2N.passAt (takesN tkB) σ) (da_cons (de_tup (da_cons de_int (da_cons de_int da_nil rfl) rfl)) (da_cons de_int da_nil rfl) rfl) (by decide) rfl rfl) rfl))))))))))))))) (.cons (i := 2) rfl rfl ⟨rfl, by decide, .inl (Fx.g 1 rfl)⟩ (catB_ok rfl rfl (Fx.p 12 rfl)) (fun H0 mu0 fl a oe cls d pn ins hz hf => (ds_one (ds_setV (i := 1) sc__law_list_door.nd rfl (.inl rfl) (de_tup (da_cons de_str (da_cons (de_xf rfl ins (fun c Cc hc => (xf_at (names := clsN) (f := "name") rfl (Fx.p 11 rfl) hc).1) (fun c Cc hc => (xf_at (names := clsN) (f := "name") rfl (Fx.p 11 rfl) hc).2) hz hf (pe_var (i := 2) rfl (.inl rfl)) rfl) da_nil rfl) rfl)) rfl rfl))) (.cons (i := 2) rfl rfl ⟨rfl, by decide, .inl (Fx.g 3 rfl)⟩ (catB_ok rfl rfl (Fx.p 6 rfl)) (fun H0 mu0 fl a oe cls d pn ins hz hf => (ds_one (ds_setV (i := 1) sc__law_list_door.nd rfl (.inl rfl) (de_tup (da_cons de_str (da_cons (de_xf rfl ins (fun c Cc hc => (xf_at (names := clsN) (f := "place") rfl (Fx.p 7 rfl) hc).1) (fun c Cc hc => (xf_at (names := clsN) (f := "place") rfl (Fx.p 7 rfl) hc).2) hz hf (pe_var (i := 2) rfl (.inl rfl)) rfl) da_nil rfl) rfl)) rfl rfl))) .nil)))
    (ds_one (ds_ret (de_name (pe_var (i := 1) rfl (.inl rfl)))))))
theorem b__law_list_door (Fx : FX preds globs frees fnl K mg) : Binds K (fdOf K ("_law_list_door", none)) ["_law_door"] [] := (Fx.d 54 rfl).bindsN fun _ _ _ _ _ _ us hl => match us, hl with | [_], _ => rfl
theorem sc__law_doors_so : FnScope ["_law_base_here", "_law_worlds", "_law_door", "_law_found", "_law_many"] ["_law_base_here", "_law_worlds"] (defScope (top 66)) := ⟨rfl, rfl, rfl, by decide +kernel, rfl, by decide +kernel, by decide +kernel⟩
theorem ok__law_doors_so (Fx : FX preds globs frees fnl K mg) : FnOk P w K mg base (L2.CX P w) 10 (He.ga K "_law_doors_so") (fdOf K ("_law_doors_so", none)) ["_law_base_here", "_law_worlds"] (spF K (clK clsN K) 2 F__law_doors_so) :=
  fn_hot false (Fx.d 55 rfl) sc__law_doors_so fun H0 mu0 W cdv A outer s H E hr tk =>
    (ds_cons (ds_for (L2.passes_of rfl) rfl (di_range1 rfl (Fx.fr 11 rfl) (da_cons de_int da_nil rfl) rfl) (pg_name (i := 2) sc__law_doors_so.nd rfl (.inl rfl) (.inl rfl)) simG_name (ds_one (ds_if (dt_not (dt_tru rfl (de_call rfl (ok__law_whole_refused Fx) (hr.mono (by decide)) rfl (Fx.g 59 rfl) (Fx.d 53 rfl).kp (b__law_whole_refused Fx) (fun σ => L2.passAt tk σ) (da_cons (de_name (pe_var (i := 2) rfl (.inl rfl))) (da_cons (de_name (pe_var (i := 0) rfl (.inl rfl))) (da_cons (de_name (pe_var (i := 1) rfl (.inl rfl))) da_nil rfl) rfl) rfl) (by decide) rfl rfl) (fun _ => rfl))) (ds_one (ds_ret de_bl)) ds_nil)) (fun _ => rfl))
    (ds_cons (ds_setLc false (i := 3) (own := [("_law_door", 2)]) rfl sc__law_doors_so.nd rfl rfl rfl (di_range1 rfl (Fx.fr 11 rfl) (da_cons de_int da_nil rfl) rfl) (blkOk_by rfl) (fun _ _ _ _ _ => (pg_name (i := 2) sc__law_doors_so.nd rfl (.inl rfl) (.inr rfl))) simG_name (by decide) (fun _ _ _ _ _ => dts_nil) (fun _ _ _ _ _ => (de_call rfl (ok__law_list_door Fx) (hr.mono (by decide)) rfl (Fx.g 60 rfl) (Fx.d 54 rfl).kp (b__law_list_door Fx) pnoX (da_cons (de_name (pe_var (i := 2) rfl (.inl rfl))) da_nil rfl) (by decide) rfl rfl)) (fun _ => rfl))
    (ds_cons (ds_setV (i := 4) sc__law_doors_so.nd rfl (.inl rfl) (de_tup (da_cons de_str (da_cons de_str da_nil rfl) rfl)) rfl rfl)
    (ds_cons (ds_if (dt_cmp (op_neD (hu64 hr)) sim_ne (de_name (pe_var (i := 3) rfl (.inl rfl))) (de_lst false (da_cons (de_name (pe_var (i := 4) rfl (.inl rfl))) (da_cons (de_name (pe_var (i := 4) rfl (.inl rfl))) (da_cons (de_name (pe_var (i := 4) rfl (.inl rfl))) (da_cons (de_tup (da_cons de_str (da_cons (de_neg de_int) da_nil rfl) rfl)) (da_cons (de_tup (da_cons de_str (da_cons de_int da_nil rfl) rfl)) (da_cons (de_tup (da_cons de_str (da_cons (de_neg de_int) da_nil rfl) rfl)) (da_cons (de_tup (da_cons de_str (da_cons de_int da_nil rfl) rfl)) da_nil rfl) rfl) rfl) rfl) rfl) rfl) rfl)) (nomark _)) (ds_one (ds_ret de_bl)) ds_nil)
    (ds_one (ds_ret (de_and (de_cmp (op_eqD (hu64 hr)) sim_eq (de_call rfl (ok_left_out Fx) (hr.mono (by decide)) rfl (Fx.g 31 rfl) (Fx.d 25 rfl).kp (b_left_out Fx) (fun σ => L2N.passAt (takesN tk) σ) (da_cons (de_tup (da_cons de_int (da_cons de_int da_nil rfl) rfl)) (da_cons de_int da_nil rfl) rfl) (by decide) rfl rfl) (de_tup da_nil) (nomark _)) (de_and (de_cmp (op_eqD (hu64 hr)) sim_eq (de_call rfl (ok_hitting Fx) (hr.mono (by decide)) rfl (Fx.g 30 rfl) (Fx.d 24 rfl).kp (b_hitting Fx) (fun σ => L2.passAt tk σ) (da_cons (de_lst false da_nil) (da_cons de_int da_nil rfl) rfl) (by decide) rfl rfl) (de_tup (da_cons (de_tup da_nil) da_nil rfl)) (nomark _)) (de_one (de_cmp (op_eqD (hu64 hr)) sim_eq (de_call rfl (ok_hitting Fx) (hr.mono (by decide)) rfl (Fx.g 30 rfl) (Fx.d 24 rfl).kp (b_hitting Fx) (fun σ => L2.passAt tk σ) (da_cons (de_lst false (da_cons (de_tup da_nil) da_nil rfl)) (da_cons de_int da_nil rfl) rfl) (by decide) rfl rfl) (de_tup da_nil) (nomark _)))))))))))
theorem b__law_doors_so (Fx : FX preds globs frees fnl K mg) : Binds K (fdOf K ("_law_doors_so", none)) ["_law_base_here", "_law_worlds"] [] := (Fx.d 55 rfl).bindsN fun _ _ _ _ _ _ us hl => match us, hl with | [_, _], _ => rfl
theorem sc__law_eight_so : FnScope ["_law_base_here", "_law_worlds", "_law_lot_here", "_law_many", "_law_eight", "_law_carried_here", "_law_due", "_law_sublist", "_law_turn"] ["_law_base_here", "_law_worlds", "_law_lot_here"] (defScope (top 67)) := ⟨rfl, rfl, rfl, by decide +kernel, rfl, by decide +kernel, by decide +kernel⟩
theorem ok__law_eight_so (Fx : FX preds globs frees fnl K mg) : FnOk P w K mg base (L2.CX P w) 8 (He.ga K "_law_eight_so") (fdOf K ("_law_eight_so", none)) ["_law_base_here", "_law_worlds", "_law_lot_here"] (spF K (clK clsN K) 3 F__law_eight_so) :=
  fn_hot false (Fx.d 56 rfl) sc__law_eight_so fun H0 mu0 W cdv A outer s H E hr tk =>
    (ds_cons (ds_setV (i := 3) sc__law_eight_so.nd rfl (.inr rfl) (de_callB call_len sim_len bo_len (by decide) (by decide) rfl (Fx.fr 1 rfl) (da_cons (de_name (pe_var (i := 0) rfl (.inl rfl))) da_nil rfl) rfl rfl) rfl rfl)
    (ds_cons (ds_setV (i := 4) sc__law_eight_so.nd rfl (.inl rfl) (de_add rfl (de_name (pe_var (i := 0) rfl (.inl rfl))) (de_lc false (own := [("_law_turn", 8)]) rfl sc__law_eight_so.nd (di_range1 rfl (Fx.fr 11 rfl) (da_cons (de_sub de_int (de_name (pe_var (i := 3) rfl (.inr (.inl rfl))))) da_nil rfl) rfl) (blkOk_by rfl) (fun _ _ _ _ _ => (pg_name (i := 8) sc__law_eight_so.nd rfl (.inl rfl) (.inr rfl))) simG_name (by decide) (fun _ _ _ _ _ => dts_nil) (fun _ _ _ _ _ => (de_tupRg rfl rfl (Fx.fr 10 rfl) (dr_1 rfl (Fx.fr 11 rfl) (de_name (pe_var (i := 1) rfl (.inr (.inl rfl)))) rfl) rfl)) (fun _ => rfl))) rfl rfl)
    (ds_cons (ds_setV (i := 5) sc__law_eight_so.nd rfl (.inl rfl) (de_call rfl (ok__law_carried Fx) (hr.mono (by decide)) rfl (Fx.g 49 rfl) (Fx.d 43 rfl).kp (b__law_carried Fx) (fun σ => L2N.passAt (takesN tk) σ) (da_cons (de_name (pe_var (i := 0) rfl (.inl rfl))) (da_cons (de_name (pe_var (i := 1) rfl (.inr (.inl rfl)))) (da_cons (de_name (pe_var (i := 2) rfl (.inl rfl))) da_nil rfl) rfl) rfl) (by decide) rfl rfl) rfl rfl)
    (ds_cons (ds_setLc false (i := 6) (own := [("_law_sublist", 7)]) rfl sc__law_eight_so.nd rfl rfl rfl (di_any rfl (de_call rfl (ok__law_rests Fx) (hr.mono (by decide)) rfl (Fx.g 50 rfl) (Fx.d 44 rfl).kp (b__law_rests Fx) (fun σ => L2N.passAt (takesN tk) σ) (da_cons (de_name (pe_var (i := 3) rfl (.inr (.inl rfl)))) (da_cons (de_name (pe_var (i := 5) rfl (.inl rfl))) da_nil rfl) rfl) (by decide) rfl rfl)) (blkOk_by rfl) (fun _ _ _ _ _ => (pg_name (i := 7) sc__law_eight_so.nd rfl (.inl rfl) (.inr rfl))) simG_name (by decide) (fun _ _ _ _ _ => dts_nil) (fun _ _ _ _ _ => (de_add rfl (de_name (pe_var (i := 7) rfl (.inl rfl))) (de_tupRg rfl rfl (Fx.fr 10 rfl) (dr_2 rfl (Fx.fr 11 rfl) (de_name (pe_var (i := 3) rfl (.inr (.inl rfl)))) de_int rfl rfl rfl) rfl))) (fun _ => rfl))
    (ds_cons (ds_if (dt_not (dt_tru rfl (de_call rfl (ok__law_sublists_are Fx) (hr.mono (by decide)) rfl (Fx.g 53 rfl) (Fx.d 47 rfl).kp (b__law_sublists_are Fx) (fun σ => L2N.passAt (takesN tk) σ) (da_cons (de_call rfl (ok_rests Fx) (hr.mono (by decide)) rfl (Fx.g 28 rfl) (Fx.d 22 rfl).kp (b_rests Fx) (fun σ => L2.passAt tk σ) (da_cons (de_name (pe_var (i := 4) rfl (.inl rfl))) (da_cons (de_name (pe_var (i := 1) rfl (.inr (.inl rfl)))) (da_cons (de_name (pe_var (i := 2) rfl (.inl rfl))) da_nil rfl) rfl) rfl) (by decide) rfl rfl) (da_cons (de_name (pe_var (i := 6) rfl (.inl rfl))) (da_cons de_int da_nil rfl) rfl) rfl) (by decide) rfl rfl) (fun _ => rfl))) (ds_one (ds_ret de_bl)) ds_nil)
    (ds_one (ds_ret (de_call rfl (ok__law_sublists_are Fx) (hr.mono (by decide)) rfl (Fx.g 53 rfl) (Fx.d 47 rfl).kp (b__law_sublists_are Fx) (fun σ => L2N.passAt (takesN tk) σ) (da_cons (de_call rfl (ok_kernels Fx) (hr.mono (by decide)) rfl (Fx.g 29 rfl) (Fx.d 23 rfl).kp (b_kernels Fx) (fun σ => L2.passAt tk σ) (da_cons (de_name (pe_var (i := 4) rfl (.inl rfl))) (da_cons (de_name (pe_var (i := 1) rfl (.inr (.inl rfl)))) (da_cons (de_name (pe_var (i := 2) rfl (.inl rfl))) da_nil rfl) rfl) rfl) (by decide) rfl rfl) (da_cons (de_call rfl (ok__law_kernels Fx) (hr.mono (by decide)) rfl (Fx.g 51 rfl) (Fx.d 45 rfl).kp (b__law_kernels Fx) (fun σ => L2N.passAt (takesN tk) σ) (da_cons (de_name (pe_var (i := 5) rfl (.inl rfl))) da_nil rfl) (by decide) rfl rfl) (da_cons de_int da_nil rfl) rfl) rfl) (by decide) rfl rfl))))))))
theorem b__law_eight_so (Fx : FX preds globs frees fnl K mg) : Binds K (fdOf K ("_law_eight_so", none)) ["_law_base_here", "_law_worlds", "_law_lot_here"] [] := (Fx.d 56 rfl).bindsN fun _ _ _ _ _ _ us hl => match us, hl with | [_, _, _], _ => rfl
theorem sc_law : FnScope ["_law_script", "_law_draws_here", "_law_worlds", "_law_base_here", "_law_one", "_law_other", "_law_sublist", "_law_same_here", "_law_lot_here"] ["_law_script"] (defScope (top 68)) := ⟨rfl, rfl, rfl, by decide +kernel, rfl, by decide +kernel, by decide +kernel⟩
theorem ok_law (Fx : FX preds globs frees fnl K mg) : FnOk P w K mg base (L2.CX P w) 11 (He.ga K "law") (fdOf K ("law", none)) ["_law_script"] (spF K (clK clsN K) 1 F_law) :=
  fn_hot false (Fx.d 57 rfl) sc_law fun H0 mu0 W cdv A outer s H E hr tk =>
    (ds_cons (ds_setV (i := 1) sc_law.nd rfl (.inl rfl) (de_call rfl (ok__law_draws Fx) (hr.mono (by decide)) rfl (Fx.g 35 rfl) (Fx.d 29 rfl).kp (b__law_draws Fx) (fun σ => L2N.passAt (takesN tk) σ) (da_cons (de_name (pe_var (i := 0) rfl (.inl rfl))) da_nil rfl) (by decide) rfl rfl) rfl rfl)
    (ds_cons (ds_setV (i := 2) sc_law.nd rfl (.inl rfl) (de_add rfl de_int (de_call rfl (ok__law_take Fx) (hr.mono (by decide)) rfl (Fx.g 36 rfl) (Fx.d 30 rfl).kp (b__law_take Fx) (fun σ => L2N.passAt (takesN tk) σ) (da_cons (de_name (pe_var (i := 1) rfl (.inl rfl))) (da_cons de_int da_nil rfl) rfl) (by decide) rfl rfl)) rfl rfl)
    (ds_cons (ds_setV (i := 3) sc_law.nd rfl (.inl rfl) (de_call rfl (ok__law_base Fx) (hr.mono (by decide)) rfl (Fx.g 47 rfl) (Fx.d 41 rfl).kp (b__law_base Fx) (fun σ => L2N.passAt (takesN tk) σ) (da_cons (de_name (pe_var (i := 1) rfl (.inl rfl))) (da_cons (de_name (pe_var (i := 2) rfl (.inl rfl))) (da_cons (de_call rfl (ok__law_take Fx) (hr.mono (by decide)) rfl (Fx.g 36 rfl) (Fx.d 30 rfl).kp (b__law_take Fx) (fun σ => L2N.passAt (takesN tk) σ) (da_cons (de_name (pe_var (i := 1) rfl (.inl rfl))) (da_cons de_int da_nil rfl) rfl) (by decide) rfl rfl) (da_cons de_int da_nil rfl) rfl) rfl) rfl) (by decide) rfl rfl) rfl rfl)
    (ds_cons (ds_setV (i := 4) sc_law.nd rfl (.inl rfl) (de_call rfl (ok__law_short Fx) (hr.mono (by decide)) rfl (Fx.g 42 rfl) (Fx.d 36 rfl).kp (b__law_short Fx) (fun σ => L2N.passAt (takesN tk) σ) (da_cons (de_name (pe_var (i := 1) rfl (.inl rfl))) (da_cons (de_name (pe_var (i := 2) rfl (.inl rfl))) da_nil rfl) rfl) (by decide) rfl rfl) rfl rfl)
    (ds_cons (ds_setV (i := 5) sc_law.nd rfl (.inl rfl) (de_call rfl (ok__law_short Fx) (hr.mono (by decide)) rfl (Fx.g 42 rfl) (Fx.d 36 rfl).kp (b__law_short Fx) (fun σ => L2N.passAt (takesN tk) σ) (da_cons (de_name (pe_var (i := 1) rfl (.inl rfl))) (da_cons (de_name (pe_var (i := 2) rfl (.inl rfl))) da_nil rfl) rfl) (by decide) rfl rfl) rfl rfl)
    (ds_cons (ds_if (dt_not (dt_tru rfl (de_call rfl (ok__law_bases_so Fx) (hr.mono (by decide)) rfl (Fx.g 58 rfl) (Fx.d 52 rfl).kp (b__law_bases_so Fx) (fun σ => L2.passAt tk σ) (da_cons (de_name (pe_var (i := 1) rfl (.inl rfl))) (da_cons (de_name (pe_var (i := 3) rfl (.inl rfl))) (da_cons (de_name (pe_var (i := 2) rfl (.inl rfl))) da_nil rfl) rfl) rfl) (by decide) rfl rfl) (fun _ => rfl))) (ds_one (ds_ret de_bl)) ds_nil)
    (ds_cons (ds_if (dt_bool (dw_or (dt_not (dt_tru rfl (de_call rfl (ok__law_is_so Fx) (hr.mono (by decide)) rfl (Fx.g 56 rfl) (Fx.d 50 rfl).kp (b__law_is_so Fx) (fun σ => L2.passAt tk σ) (da_cons (de_name (pe_var (i := 3) rfl (.inl rfl))) (da_cons (de_name (pe_var (i := 2) rfl (.inl rfl))) (da_cons (de_name (pe_var (i := 4) rfl (.inl rfl))) da_nil rfl) rfl) rfl) (by decide) rfl rfl) (fun _ => rfl))) (dw_or1 (dt_not (dt_tru rfl (de_call rfl (ok__law_is_so Fx) (hr.mono (by decide)) rfl (Fx.g 56 rfl) (Fx.d 50 rfl).kp (b__law_is_so Fx) (fun σ => L2.passAt tk σ) (da_cons (de_name (pe_var (i := 3) rfl (.inl rfl))) (da_cons (de_name (pe_var (i := 2) rfl (.inl rfl))) (da_cons (de_name (pe_var (i := 5) rfl (.inl rfl))) da_nil rfl) rfl) rfl) (by decide) rfl rfl) (fun _ => rfl)))))) (ds_one (ds_ret de_bl)) ds_nil)
    (ds_cons (ds_if (dt_not (dt_tru rfl (de_call rfl (ok__law_sublists_are Fx) (hr.mono (by decide)) rfl (Fx.g 53 rfl) (Fx.d 47 rfl).kp (b__law_sublists_are Fx) (fun σ => L2N.passAt (takesN tk) σ) (da_cons (de_call rfl (ok_all_sublists Fx) (hr.mono (by decide)) rfl (Fx.g 23 rfl) (Fx.d 17 rfl).kp (b_all_sublists Fx) (fun σ => L2N.passAt (takesN tk) σ) (da_cons (de_callB call_len sim_len bo_len (by decide) (by decide) rfl (Fx.fr 1 rfl) (da_cons (de_name (pe_var (i := 3) rfl (.inl rfl))) da_nil rfl) rfl rfl) da_nil rfl) (by decide) rfl rfl) (da_cons (de_call rfl (ok__law_lots Fx) (hr.mono (by decide)) rfl (Fx.g 39 rfl) (Fx.d 33 rfl).kp (b__law_lots Fx) (fun σ => L2N.passAt (takesN tk) σ) (da_cons (de_callB call_len sim_len bo_len (by decide) (by decide) rfl (Fx.fr 1 rfl) (da_cons (de_name (pe_var (i := 3) rfl (.inl rfl))) da_nil rfl) rfl rfl) da_nil rfl) (by decide) rfl rfl) (da_cons (de_callB call_len sim_len bo_len (by decide) (by decide) rfl (Fx.fr 1 rfl) (da_cons (de_name (pe_var (i := 3) rfl (.inl rfl))) da_nil rfl) rfl rfl) da_nil rfl) rfl) rfl) (by decide) rfl rfl) (fun _ => rfl))) (ds_one (ds_ret de_bl)) ds_nil)
    (ds_cons (ds_for (L2.passes_of rfl) rfl (di_any rfl (de_call rfl (ok__law_lots Fx) (hr.mono (by decide)) rfl (Fx.g 39 rfl) (Fx.d 33 rfl).kp (b__law_lots Fx) (fun σ => L2N.passAt (takesN tk) σ) (da_cons (de_callB call_len sim_len bo_len (by decide) (by decide) rfl (Fx.fr 1 rfl) (da_cons (de_name (pe_var (i := 3) rfl (.inl rfl))) da_nil rfl) rfl rfl) da_nil rfl) (by decide) rfl rfl)) (pg_name (i := 6) sc_law.nd rfl (.inl rfl) (.inl rfl)) simG_name (ds_cons (ds_setV (i := 8) sc_law.nd rfl (.inl rfl) (de_call rfl (ok_says Fx) (hr.mono (by decide)) rfl (Fx.g 20 rfl) (Fx.d 14 rfl).kp (b_says Fx) (fun σ => L2.passAt tk σ) (da_cons (de_callTy call_tuple_of sim_tuple bo_tuple (by decide) (by decide) rfl (Fx.fr 10 rfl) (da_cons (de_name (pe_var (i := 3) rfl (.inl rfl))) da_nil rfl) rfl rfl) (da_cons (de_name (pe_var (i := 2) rfl (.inl rfl))) (da_cons (de_rev false rfl (de_callTy call_list_of sim_list bo_list (by decide) (by decide) rfl (Fx.fr 9 rfl) (da_cons (de_name (pe_var (i := 6) rfl (.inl rfl))) da_nil rfl) rfl rfl)) da_nil rfl) rfl) rfl) (by decide) rfl rfl) rfl rfl)
    (ds_one (ds_if (dt_bool (dw_or (dt_not (dt_tru rfl (de_call rfl (ok__law_lot_kind Fx) (hr.mono (by decide)) rfl (Fx.g 38 rfl) (Fx.d 32 rfl).kp (b__law_lot_kind Fx) (fun σ => L2N.passAt (takesN tk) σ) (da_cons (de_name (pe_var (i := 8) rfl (.inl rfl))) (da_cons (de_name (pe_var (i := 2) rfl (.inl rfl))) da_nil rfl) rfl) (by decide) rfl rfl) (fun _ => rfl))) (dw_or1 (dt_cmp (op_neD (hu64 hr)) sim_ne (de_name (pe_var (i := 8) rfl (.inl rfl))) (de_call rfl (ok__law_says Fx) (hr.mono (by decide)) rfl (Fx.g 48 rfl) (Fx.d 42 rfl).kp (b__law_says Fx) (fun σ => L2N.passAt (takesN tk) σ) (da_cons (de_name (pe_var (i := 3) rfl (.inl rfl))) (da_cons (de_name (pe_var (i := 2) rfl (.inl rfl))) (da_cons (de_name (pe_var (i := 6) rfl (.inl rfl))) da_nil rfl) rfl) rfl) (by decide) rfl rfl) (nomark _))))) (ds_one (ds_ret de_bl)) ds_nil))) (fun _ => rfl))
    (ds_cons (ds_setV (i := 7) sc_law.nd rfl (.inl rfl) (de_cmp (op_eqD (hu64 hr)) sim_eq (de_call rfl (ok__law_carried Fx) (hr.mono (by decide)) rfl (Fx.g 49 rfl) (Fx.d 43 rfl).kp (b__law_carried Fx) (fun σ => L2N.passAt (takesN tk) σ) (da_cons (de_name (pe_var (i := 3) rfl (.inl rfl))) (da_cons (de_name (pe_var (i := 2) rfl (.inl rfl))) (da_cons (de_name (pe_var (i := 4) rfl (.inl rfl))) da_nil rfl) rfl) rfl) (by decide) rfl rfl) (de_call rfl (ok__law_carried Fx) (hr.mono (by decide)) rfl (Fx.g 49 rfl) (Fx.d 43 rfl).kp (b__law_carried Fx) (fun σ => L2N.passAt (takesN tk) σ) (da_cons (de_name (pe_var (i := 3) rfl (.inl rfl))) (da_cons (de_name (pe_var (i := 2) rfl (.inl rfl))) (da_cons (de_name (pe_var (i := 5) rfl (.inl rfl))) da_nil rfl) rfl) rfl) (by decide) rfl rfl) (nomark _)) rfl rfl)
    (ds_cons (ds_if (dt_cmp (op_neD (hu64 hr)) sim_ne (de_cmp (op_eqD (hu64 hr)) sim_eq (de_call rfl (ok_rests Fx) (hr.mono (by decide)) rfl (Fx.g 28 rfl) (Fx.d 22 rfl).kp (b_rests Fx) (fun σ => L2.passAt tk σ) (da_cons (de_name (pe_var (i := 3) rfl (.inl rfl))) (da_cons (de_name (pe_var (i := 2) rfl (.inl rfl))) (da_cons (de_name (pe_var (i := 4) rfl (.inl rfl))) da_nil rfl) rfl) rfl) (by decide) rfl rfl) (de_call rfl (ok_rests Fx) (hr.mono (by decide)) rfl (Fx.g 28 rfl) (Fx.d 22 rfl).kp (b_rests Fx) (fun σ => L2.passAt tk σ) (da_cons (de_name (pe_var (i := 3) rfl (.inl rfl))) (da_cons (de_name (pe_var (i := 2) rfl (.inl rfl))) (da_cons (de_name (pe_var (i := 5) rfl (.inl rfl))) da_nil rfl) rfl) rfl) (by decide) rfl rfl) (nomark _)) (de_name (pe_var (i := 7) rfl (.inl rfl))) (nomark _)) (ds_one (ds_ret de_bl)) ds_nil)
    (ds_cons (ds_if (dt_cmp (op_neD (hu64 hr)) sim_ne (de_cmp (op_eqD (hu64 hr)) sim_eq (de_call rfl (ok_kernels Fx) (hr.mono (by decide)) rfl (Fx.g 29 rfl) (Fx.d 23 rfl).kp (b_kernels Fx) (fun σ => L2.passAt tk σ) (da_cons (de_name (pe_var (i := 3) rfl (.inl rfl))) (da_cons (de_name (pe_var (i := 2) rfl (.inl rfl))) (da_cons (de_name (pe_var (i := 4) rfl (.inl rfl))) da_nil rfl) rfl) rfl) (by decide) rfl rfl) (de_call rfl (ok_kernels Fx) (hr.mono (by decide)) rfl (Fx.g 29 rfl) (Fx.d 23 rfl).kp (b_kernels Fx) (fun σ => L2.passAt tk σ) (da_cons (de_name (pe_var (i := 3) rfl (.inl rfl))) (da_cons (de_name (pe_var (i := 2) rfl (.inl rfl))) (da_cons (de_name (pe_var (i := 5) rfl (.inl rfl))) da_nil rfl) rfl) rfl) (by decide) rfl rfl) (nomark _)) (de_name (pe_var (i := 7) rfl (.inl rfl))) (nomark _)) (ds_one (ds_ret de_bl)) ds_nil)
    (ds_cons (ds_if (dt_bool (dw_and (dt_cmp (op_eqD (hu64 hr)) sim_eq (de_call rfl (ok__law_take Fx) (hr.mono (by decide)) rfl (Fx.g 36 rfl) (Fx.d 30 rfl).kp (b__law_take Fx) (fun σ => L2N.passAt (takesN tk) σ) (da_cons (de_name (pe_var (i := 1) rfl (.inl rfl))) (da_cons de_int da_nil rfl) rfl) (by decide) rfl rfl) de_int (nomark _)) (dw_and1 (dt_not (dt_tru rfl (de_call rfl (ok__law_eight_so Fx) (hr.mono (by decide)) rfl (Fx.g 62 rfl) (Fx.d 56 rfl).kp (b__law_eight_so Fx) (fun σ => L2.passAt tk σ) (da_cons (de_name (pe_var (i := 3) rfl (.inl rfl))) (da_cons (de_name (pe_var (i := 2) rfl (.inl rfl))) (da_cons (de_name (pe_var (i := 4) rfl (.inl rfl))) da_nil rfl) rfl) rfl) (by decide) rfl rfl) (fun _ => rfl)))))) (ds_one (ds_ret de_bl)) ds_nil)
    (ds_one (ds_ret (de_call rfl (ok__law_doors_so Fx) (hr.mono (by decide)) rfl (Fx.g 61 rfl) (Fx.d 55 rfl).kp (b__law_doors_so Fx) (fun σ => L2.passAt tk σ) (da_cons (de_name (pe_var (i := 3) rfl (.inl rfl))) (da_cons (de_name (pe_var (i := 2) rfl (.inl rfl))) da_nil rfl) rfl) (by decide) rfl rfl))))))))))))))))
theorem b_law (Fx : FX preds globs frees fnl K mg) : Binds K (fdOf K ("law", none)) ["_law_script"] [] := (Fx.d 57 rfl).bindsN fun _ _ _ _ _ _ us hl => match us, hl with | [_], _ => rfl
end
end Law
end
section
set_option Elab.async false
set_option linter.all false
set_option maxRecDepth 100000
set_option maxHeartbeats 400000
noncomputable section
namespace Law
open Nb
def D.isI : D → Bool
  | .int _ => true
  | _ => false
def plain (d : D) : Bool := match d with
  | .non => true
  | .bl _ => true
  | .int _ => true
  | .str _ => true
  | .tup _ => true
  | .lst _ => true
  | _ => false
theorem nd {α : Sort _} {a b : α} (h : a = b) : a = b := h
theorem pl_int (i : Int) : plain (.int i) = true := nd rfl
theorem pl_bl (i : Bool) : plain (.bl i) = true := nd rfl
theorem pl_non : plain .non = true := nd rfl
theorem pl_str (i : PySem.Str) : plain (.str i) = true := nd rfl
theorem pl_tup (i : List D) : plain (.tup i) = true := nd rfl
theorem pl_lst (i : List D) : plain (.lst i) = true := nd rfl
theorem kb : L2.kitB "int" "int" = some true ∧ L2.kitB "bool" "int" = some true ∧ L2.kitB "NoneType" "int" = some false ∧ L2.kitB "str" "int" = some false ∧ L2.kitB "tuple" "int" = some false ∧ L2.kitB "list" "int" = some false ∧
    L2.kitB "int" "bool" = some false ∧ L2.kitB "bool" "bool" = some true ∧ L2.kitB "int" "tuple" = some false ∧ L2.kitB "bool" "tuple" = some false ∧ L2.kitB "NoneType" "tuple" = some false ∧ L2.kitB "str" "tuple" = some false ∧ L2.kitB "tuple" "tuple" = some true ∧ L2.kitB "list" "tuple" = some false ∧
    L2.kitB "int" "list" = some false ∧ L2.kitB "bool" "list" = some false ∧ L2.kitB "NoneType" "list" = some false ∧ L2.kitB "str" "list" = some false ∧ L2.kitB "tuple" "list" = some false ∧ L2.kitB "list" "list" = some true := by decide +kernel
theorem s_whole_number (d : D) (h : Hpp) (hp : plain d = true) : F_whole_number [d] h = .ok (.bl (D.isI d)) h := by
  obtain ⟨k1, k2, k3, k4, k5, k6, k7, k8, _⟩ := kb
  cases d <;> first | (simp [plain] at hp; done) | simp [F_whole_number, m_whole_number, fIsi, tyName, D.isI, k1, k2, k3, k4, k5, k6, k7, k8, fnM, env0, sSeq, sSet, sRet, sRetN, sIf, sExpr, sNil, onR, eVar, eC, eOp, eAnd, eOr, eNot, eNeg, eIf, bAnd, bOr, bNot, bOp, bTru, asB, eChain, eCall, eFn, eFnD, eFnK, aCons, aNil, R.bind, List.length_cons, List.length_nil, List.replicate, List.map_cons, List.map_nil, List.cons_append, List.nil_append, List.getElem?_cons_zero, List.getElem?_cons_succ, List.set_cons_zero, List.set_cons_succ, finR, wipeE, tgN, truth, bYes, nI, pl_int, pl_bl, pl_non, pl_str, pl_tup, pl_lst]
theorem s_law_int (d : D) (h : Hpp) (hp : plain d = true) : F__law_int [d] h = .ok (.bl (D.isI d)) h := s_whole_number d h hp
def isRow (d : D) : Bool := match d with
  | .tup _ => true
  | .lst _ => true
  | _ => false
theorem s_is_row (d : D) (h : Hpp) (hp : plain d = true) : F_is_row [d] h = .ok (.bl (isRow d)) h := by
  obtain ⟨k1, k2, k3, k4, k5, k6, k7, k8, a1, a2, a3, a4, a5, a6, b1, b2, b3, b4, b5, b6⟩ := kb
  cases d <;> first | (simp [plain] at hp; done) | simp [F_is_row, m_is_row, eIsiT, kitL, tyName, isRow, a1, a2, a3, a4, a5, a6, b1, b2, b3, b4, b5, b6, fnM, env0, sSeq, sSet, sRet, sRetN, sIf, sExpr, sNil, onR, eVar, eC, eOp, eAnd, eOr, eNot, eNeg, eIf, bAnd, bOr, bNot, bOp, bTru, asB, eChain, eCall, eFn, eFnD, eFnK, aCons, aNil, R.bind, List.length_cons, List.length_nil, List.replicate, List.map_cons, List.map_nil, List.cons_append, List.nil_append, List.getElem?_cons_zero, List.getElem?_cons_succ, List.set_cons_zero, List.set_cons_succ, finR, wipeE, tgN, truth, bYes, nI, pl_int, pl_bl, pl_non, pl_str, pl_tup, pl_lst]
theorem s_check_worlds (w : Nat) (h : Hpp) (h1 : 1 ≤ w) (h2 : w ≤ 12) : F_check_worlds [nI w] h = .ok .non h := by
  have e1 : ¬ ((w : Int) < 1) := by omega
  have e2 : ¬ ((12 : Int) < w) := by omega
  simp [F_check_worlds, m_check_worlds, s_whole_number, pl_int, D.isI, oCmp, oI0, e1, e2, fnM, env0, sSeq, sSet, sRet, sRetN, sIf, sExpr, sNil, onR, eVar, eC, eOp, eAnd, eOr, eNot, eNeg, eIf, bAnd, bOr, bNot, bOp, bTru, asB, eChain, eCall, eFn, eFnD, eFnK, aCons, aNil, R.bind, List.length_cons, List.length_nil, List.replicate, List.map_cons, List.map_nil, List.cons_append, List.nil_append, List.getElem?_cons_zero, List.getElem?_cons_succ, List.set_cons_zero, List.set_cons_succ, finR, wipeE, tgN, truth, bYes, nI, pl_int, pl_bl, pl_non, pl_str, pl_tup, pl_lst]
/-- a world of w -/
def okW (d : D) (w : Nat) : Bool := match d with
  | .int i => decide (0 ≤ i ∧ i < (w : Int))
  | _ => false
theorem s_is_world (d : D) (w : Nat) (h : Hpp) (hp : plain d = true) : F_is_world [d, nI w] h = .ok (.bl (okW d w)) h := by
  have e := s_whole_number d h hp
  cases d <;> first | (simp [plain] at hp; done) | skip
  case int i => 
    by_cases h0 : 0 ≤ i <;> simp [F_is_world, m_is_world, e, D.isI, okW, oCmp, oI0, h0, fnM, env0, sSeq, sSet, sRet, sRetN, sIf, sExpr, sNil, onR, eVar, eC, eOp, eAnd, eOr, eNot, eNeg, eIf, bAnd, bOr, bNot, bOp, bTru, asB, eChain, eCall, eFn, eFnD, eFnK, aCons, aNil, R.bind, List.length_cons, List.length_nil, List.replicate, List.map_cons, List.map_nil, List.cons_append, List.nil_append, List.getElem?_cons_zero, List.getElem?_cons_succ, List.set_cons_zero, List.set_cons_succ, finR, wipeE, tgN, truth, bYes, nI, pl_int, pl_bl, pl_non, pl_str, pl_tup, pl_lst]
  all_goals simp [F_is_world, m_is_world, e, D.isI, okW, oCmp, oI0, fnM, env0, sSeq, sSet, sRet, sRetN, sIf, sExpr, sNil, onR, eVar, eC, eOp, eAnd, eOr, eNot, eNeg, eIf, bAnd, bOr, bNot, bOp, bTru, asB, eChain, eCall, eFn, eFnD, eFnK, aCons, aNil, R.bind, List.length_cons, List.length_nil, List.replicate, List.map_cons, List.map_nil, List.cons_append, List.nil_append, List.getElem?_cons_zero, List.getElem?_cons_succ, List.set_cons_zero, List.set_cons_succ, finR, wipeE, tgN, truth, bYes, nI, pl_int, pl_bl, pl_non, pl_str, pl_tup, pl_lst]
theorem c_at (h : Hpp) (c : Cell) : (h ++ [c])[h.length]? = some c := by simp
theorem c_set (h : Hpp) (c c' : Cell) : (h ++ [c]).set h.length c' = h ++ [c'] := by simp
theorem c_take (h : Hpp) (c : Cell) : (h ++ [c]).take h.length = h := by simp
theorem asL_c (h : Hpp) (l : List D) : asL (.ref h.length) (h ++ [.lst l]) = some l := by simp [asL]
theorem asS_c (h : Hpp) (l : List D) : asS (.ref h.length) (h ++ [.lst l]) = some l := by simp [asS, asL]
theorem cellOf_c (h : Hpp) (l : List D) : Nb.cellOf (.ref h.length) (h ++ [.lst l]) = some (h.length, l) := by simp [Nb.cellOf]
theorem app_c (h : Hpp) (l : List D) (d : D) (hr : d.isRef = false) (hl : l.length < 16777216) : fAppend (.ref h.length) [d] (h ++ [.lst l]) = .ok .non (h ++ [.lst (l ++ [d])]) := by
  simp only [fAppend, cellOf_c, hr, Bool.not_false, Bool.true_and, decide_eq_true_eq]
  rw [if_pos hl, c_set]
def enF : Nat → List D → List D
  | _, [] => []
  | k, d :: l => .tup [nI k, d] :: enF (k + 1) l
theorem enD_eq (l : List D) : enD l = enF 0 l := by
  have key : ∀ (l : List D) (k : Nat), l.mapIdx (fun i d => D.tup [nI (k + i), d]) = enF k l := by
    intro l
    induction l with
    | nil => intro k; rfl
    | cons d l ih =>
      intro k
      rw [List.mapIdx_cons]
      show _ :: _ = _ :: enF (k + 1) l
      rw [← ih (k + 1)]
      congr 1
      congr 1
      funext i d
      rw [show k + 1 + i = k + (i + 1) by omega]
  have := key l 0
  simp only [Nat.zero_add] at this
  exact this
def natOf : D → Nat
  | .int i => i.toNat
  | _ => 0
def strange (w : Nat) : List Nat → Nat → List D → Option Nat
  | _, _, [] => none
  | seen, k, d :: l => if okW d w = true then (if natOf d ∈ seen then some k else strange w (seen ++ [natOf d]) (k + 1) l) else some k
theorem okW_nat {d : D} {w : Nat} (h : okW d w = true) : d = nI (natOf d) ∧ natOf d < w := by
  cases d with
  | int i =>
    simp only [okW, decide_eq_true_eq] at h
    simp only [natOf, nI]
    constructor
    · congr 1; omega
    · omega
  | _ => cases h
noncomputable abbrev strangeB : SM := sSeq (sIf (bOr (bNot (bTru (eFn 2 F_is_world (aCons (eVar 4) (aCons (eVar 1) aNil))))) (bOp (oIn false) (eVar 4) (eVar 2))) (sRet (eVar 3)) sNil) (sExpr (eMt (eVar 2) (aCons (eVar 4) aNil) fAppend))
theorem strange_step (w k : Nat) (row d : D) (h : Hpp) (seen : List Nat) (hd : plain d = true) (hz : seen.length < 16777216) :
    strangeB [some row, some (nI w), some (.ref h.length), some (nI k), some d] (h ++ [.lst (seen.map nI)]) =
      if okW d w = true ∧ natOf d ∉ seen then .nx [some row, some (nI w), some (.ref h.length), some (nI k), some d] (h ++ [.lst ((seen ++ [natOf d]).map nI)]) else .rt (nI k) (h ++ [.lst (seen.map nI)]) := by
  have ew := s_is_world d w (h ++ [.lst (seen.map nI)]) hd
  cases ok : okW d w with
  | false => simp [strangeB, ew, ok, fnM, env0, sSeq, sSet, sRet, sRetN, sIf, sExpr, sNil, onR, eVar, eC, eOp, eAnd, eOr, eNot, eNeg, eIf, bAnd, bOr, bNot, bOp, bTru, asB, eChain, eCall, eFn, eFnD, eFnK, aCons, aNil, R.bind, List.length_cons, List.length_nil, List.replicate, List.map_cons, List.map_nil, List.cons_append, List.nil_append, List.getElem?_cons_zero, List.getElem?_cons_succ, List.set_cons_zero, List.set_cons_succ, finR, wipeE, tgN, truth, bYes, nI, pl_int, pl_bl, pl_non, pl_str, pl_tup, pl_lst]
  | true =>
    obtain ⟨e1, e2⟩ := okW_nat ok
    have ein := oIn_cellN (h ++ [.lst (seen.map nI)]) false (natOf d) (l := seen) (n := h.length) (by simp)
    rw [← e1] at ein
    have eap := app_c h (seen.map nI) d (by rw [e1]; rfl) (by simp; omega)
    have emap : seen.map nI ++ [d] = (seen ++ [natOf d]).map nI := by rw [List.map_append, e1]; simp [natOf]
    rw [emap] at eap
    by_cases hm : natOf d ∈ seen
    · simp [strangeB, ew, ok, hm, ein, fnM, env0, sSeq, sSet, sRet, sRetN, sIf, sExpr, sNil, onR, eVar, eC, eOp, eAnd, eOr, eNot, eNeg, eIf, bAnd, bOr, bNot, bOp, bTru, asB, eChain, eCall, eFn, eFnD, eFnK, aCons, aNil, R.bind, List.length_cons, List.length_nil, List.replicate, List.map_cons, List.map_nil, List.cons_append, List.nil_append, List.getElem?_cons_zero, List.getElem?_cons_succ, List.set_cons_zero, List.set_cons_succ, finR, wipeE, tgN, truth, bYes, nI, pl_int, pl_bl, pl_non, pl_str, pl_tup, pl_lst]
    · simp [strangeB, ew, ok, hm, ein, eMt, asL_c, eap, fnM, env0, sSeq, sSet, sRet, sRetN, sIf, sExpr, sNil, onR, eVar, eC, eOp, eAnd, eOr, eNot, eNeg, eIf, bAnd, bOr, bNot, bOp, bTru, asB, eChain, eCall, eFn, eFnD, eFnK, aCons, aNil, R.bind, List.length_cons, List.length_nil, List.replicate, List.map_cons, List.map_nil, List.cons_append, List.nil_append, List.getElem?_cons_zero, List.getElem?_cons_succ, List.set_cons_zero, List.set_cons_succ, finR, wipeE, tgN, truth, bYes, nI, pl_int, pl_bl, pl_non, pl_str, pl_tup, pl_lst]
theorem strange_loop (w : Nat) (row : D) (h : Hpp) : ∀ (l : List D) (seen : List Nat) (k : Nat) (x y : Option D), (∀ d ∈ l, plain d = true) → seen.length + l.length < 16777216 →
    ∃ x' y' c, forGo [] (tgT [3, 4]) strangeB (enF k l) [some row, some (nI w), some (.ref h.length), x, y] (h ++ [.lst (seen.map nI)]) = match strange w seen k l with
      | none => .nx [some row, some (nI w), some (.ref h.length), x', y'] (h ++ [c])
      | some p => .rt (nI p) (h ++ [c])
  | [], seen, k, x, y, _, _ => ⟨x, y, .lst (seen.map nI), by simp only [enF, forGo, if_pos (srcOk_nil _), strange]⟩
  | d :: l, seen, k, x, y, hp, hz => by
    have hd := hp d List.mem_cons_self
    have hz' : (seen ++ [natOf d]).length + l.length < 16777216 := by simp at hz ⊢; omega
    obtain ⟨x', y', c', ih⟩ := strange_loop w row h l (seen ++ [natOf d]) (k + 1) (some (nI k)) (some d) (fun d' m => hp d' (List.mem_cons_of_mem _ m)) hz'
    have st := strange_step w k row d h seen hd (by simp at hz; omega)
    have tg : tgT [3, 4] (.tup [nI k, d]) [some row, some (nI w), some (.ref h.length), x, y] = some [some row, some (nI w), some (.ref h.length), some (nI k), some d] := by simp [tgT, tgs]
    by_cases hc : okW d w = true ∧ natOf d ∉ seen
    · refine ⟨x', y', c', ?_⟩
      rw [if_pos hc] at st
      simp only [enF, forGo, if_pos (srcOk_nil _), tg, st, ih]
      rw [strange, if_pos hc.1, if_neg hc.2]
    · refine ⟨none, none, .lst (seen.map nI), ?_⟩
      rw [if_neg hc] at st
      simp only [enF, forGo, if_pos (srcOk_nil _), tg, st]
      rw [strange]
      by_cases h1 : okW d w = true
      · rw [if_pos h1, if_pos (Classical.not_not.mp fun z => hc ⟨h1, z⟩)]
      · rw [if_neg h1]
def oNat : Option Nat → D
  | none => .non
  | some p => nI p
theorem iEnu_at {i : Nat} {env : Env} {row : D} {l : List D} {h : Hpp} (he : env[i]? = some (some row)) (hr : row = .tup l ∨ row = .lst l) : iEnu (aCons (eVar i) aNil) env h = .ok ⟨enF 0 l, []⟩ h := by
  rcases hr with z | z <;> subst z <;> simp [iEnu, aCons, aNil, eVar, he, R.bind, asS, asL, srcOf, enD_eq]
theorem iAny_at {i : Nat} {env : Env} {row : D} {l : List D} {h : Hpp} (he : env[i]? = some (some row)) (hr : row = .tup l ∨ row = .lst l) : iAny (eVar i) env h = .ok ⟨l, []⟩ h := by
  rcases hr with z | z <;> subst z <;> simp [iAny, eVar, he, R.bind, itOf, asS, asL, srcOf]
theorem s_first_stranger (w : Nat) (row : D) (h : Hpp) (l : List D) (hr : row = .tup l ∨ row = .lst l) (hp : ∀ d ∈ l, plain d = true) (hz : l.length < 16777216) : F_first_stranger [row, nI w] h = .ok (oNat (strange w [] 0 l)) h := by
  obtain ⟨x, y, c, e⟩ := strange_loop w row h l [] 0 none none hp (by simpa using hz)
  have it := iEnu_at (i := 0) (env := [some row, some (nI w), some (.ref h.length), none, none]) (h := h ++ [.lst []]) rfl hr
  simp only [List.map_nil] at e
  simp only [F_first_stranger, m_first_stranger, fnM, env0, sSeq, sSet, sRet, sRetN, sIf, sExpr, sNil, onR, eVar, eC, eOp, eAnd, eOr, eNot, eNeg, eIf, bAnd, bOr, bNot, bOp, bTru, asB, eChain, eCall, eFn, eFnD, eFnK, aCons, aNil, R.bind, List.length_cons, List.length_nil, List.replicate, List.map_cons, List.map_nil, List.cons_append, List.nil_append, List.getElem?_cons_zero, List.getElem?_cons_succ, List.set_cons_zero, List.set_cons_succ, finR, wipeE, tgN, truth, bYes, nI, pl_int, pl_bl, pl_non, pl_str, pl_tup, pl_lst]
  simp only [eLst, mkL, sFor, fnM, env0, sSeq, sSet, sRet, sRetN, sIf, sExpr, sNil, onR, eVar, eC, eOp, eAnd, eOr, eNot, eNeg, eIf, bAnd, bOr, bNot, bOp, bTru, asB, eChain, eCall, eFn, eFnD, eFnK, aCons, aNil, R.bind, List.length_cons, List.length_nil, List.replicate, List.map_cons, List.map_nil, List.cons_append, List.nil_append, List.getElem?_cons_zero, List.getElem?_cons_succ, List.set_cons_zero, List.set_cons_succ, finR, wipeE, tgN, truth, bYes, nI, pl_int, pl_bl, pl_non, pl_str, pl_tup, pl_lst, noRefs, List.all_nil, Bool.true_and, decide_true, if_true, Nat.zero_le, Nat.reduceLT, Nat.reduceAdd, Nat.reduceSub, ite_true] at *
  simp only [it, e]
  cases hs : strange w [] 0 l with
  | none => simp [oNat]
  | some p => simp [oNat, finR]
def can (w : Nat) (ns : List Nat) : List Nat := (List.range w).filter fun x => decide (x ∈ ns)
theorem can_pair (w : Nat) (ns : List Nat) : (can w ns).Pairwise (· < ·) := List.Pairwise.filter _ List.pairwise_lt_range
theorem can_mem {w : Nat} {ns : List Nat} {x : Nat} : x ∈ can w ns ↔ x < w ∧ x ∈ ns := by simp [can]
theorem pair_uniq : ∀ {l m : List Nat}, l.Pairwise (· < ·) → m.Pairwise (· < ·) → (∀ x, x ∈ l ↔ x ∈ m) → l = m
  | [], [], _, _, _ => rfl
  | [], b :: m, _, _, h => by have := (h b).mpr List.mem_cons_self; cases this
  | a :: l, [], _, _, h => by have := (h a).mp List.mem_cons_self; cases this
  | a :: l, b :: m, hl, hm, h => by
    rw [List.pairwise_cons] at hl hm
    have hab : a = b := by
      rcases List.mem_cons.mp ((h a).mp List.mem_cons_self) with z | z
      · exact z
      · rcases List.mem_cons.mp ((h b).mpr List.mem_cons_self) with y | y
        · exact y.symm
        · have h1 := hm.1 a z
          have h2 := hl.1 b y
          omega
    subst hab
    congr 1
    refine pair_uniq hl.2 hm.2 fun x => ⟨fun hx => ?_, fun hx => ?_⟩
    · rcases List.mem_cons.mp ((h x).mp (List.mem_cons_of_mem _ hx)) with z | z
      · subst z; exact absurd (hl.1 _ hx) (Nat.lt_irrefl _)
      · exact z
    · rcases List.mem_cons.mp ((h x).mpr (List.mem_cons_of_mem _ hx)) with z | z
      · subst z; exact absurd (hm.1 _ hx) (Nat.lt_irrefl _)
      · exact z
theorem can_self {w : Nat} {l : List Nat} (h : l.Pairwise (· < ·)) (hw : ∀ x ∈ l, x < w) : can w l = l :=
  pair_uniq (can_pair w l) h fun x => by rw [can_mem]; exact ⟨fun z => z.2, fun z => ⟨hw x z, z⟩⟩
theorem can_congr {w : Nat} {l m : List Nat} (h : ∀ x, x ∈ l ↔ x ∈ m) : can w l = can w m := pair_uniq (can_pair _ _) (can_pair _ _) fun x => by rw [can_mem, can_mem, h]
theorem sort_can {w : Nat} {ns : List Nat} (hn : ns.Nodup) (hw : ∀ x ∈ ns, x < w) : sortI (ns.map fun (n : Nat) => (n : Int)) = (can w ns).map fun (n : Nat) => (n : Int) := by
  refine sorted_uniq ((sortI_perm _).trans (List.Perm.map _ ?_)) (sortI_pair _) ?_
  · refine (List.perm_ext_iff_of_nodup hn ((can_pair w ns).imp fun z => Nat.ne_of_lt z)).mpr fun x => ?_
    rw [can_mem]; exact ⟨fun z => ⟨hw x z, z⟩, fun z => z.2⟩
  · rw [List.pairwise_map]
    exact (can_pair w ns).imp fun z => by omega
theorem intsOf_nI (ns : List Nat) : intsOf (ns.map nI) = some (ns.map fun (n : Nat) => (n : Int)) := by
  have := intsOf_map (ns.map fun (n : Nat) => (n : Int))
  rw [List.map_map] at this
  exact this
theorem map_nI (ns : List Nat) : (ns.map fun (n : Nat) => (n : Int)).map D.int = ns.map nI := by rw [List.map_map]; rfl
theorem strange_app (w : Nat) : ∀ (ns : List Nat) (seen : List Nat) (k : Nat) (l : List D), (seen ++ ns).Nodup → (∀ x ∈ ns, x < w) → strange w seen k (ns.map nI ++ l) = strange w (seen ++ ns) (k + ns.length) l
  | [], seen, k, l, _, _ => by simp
  | n :: ns, seen, k, l, hn, hw => by
    have ok : okW (nI n) w = true := by simp [okW, nI]; exact hw n List.mem_cons_self
    have hns : n ∉ seen := fun z => by
      rw [List.nodup_append] at hn
      exact hn.2.2 n z n List.mem_cons_self rfl
    rw [List.map_cons, List.cons_append, strange, if_pos ok]
    have e : natOf (nI n) = n := by simp [natOf]
    rw [e, if_neg hns, strange_app w ns (seen ++ [n]) (k + 1) l (by rw [List.append_assoc]; exact hn) fun x hx => hw x (List.mem_cons_of_mem _ hx)]
    rw [List.append_assoc, List.length_cons, show k + 1 + ns.length = k + (ns.length + 1) by omega]; rfl
theorem strange_ok {w : Nat} {ns : List Nat} (hn : ns.Nodup) (hw : ∀ x ∈ ns, x < w) : strange w [] 0 (ns.map nI) = none := by
  have := strange_app w ns [] 0 [] (by simpa using hn) hw
  rw [List.append_nil] at this
  rw [this]; rfl
theorem strange_none (w : Nat) : ∀ (l : List D) (seen : List Nat) (k : Nat), seen.Nodup → strange w seen k l = none → ∃ ns : List Nat, l = ns.map nI ∧ (seen ++ ns).Nodup ∧ ∀ x ∈ ns, x < w
  | [], seen, k, hs, _ => ⟨[], rfl, by simpa using hs, fun x hx => by simp at hx⟩
  | d :: l, seen, k, hs, h => by
    rw [strange] at h
    split at h
    · rename_i ok
      split at h
      · cases h
      · rename_i hn
        obtain ⟨e1, e2⟩ := okW_nat ok
        obtain ⟨ns, h1, h2, h3⟩ := strange_none w l (seen ++ [natOf d]) (k + 1) (by
          rw [List.nodup_append]
          exact ⟨hs, by simp, fun a ha b hb z => by
            have : b = natOf d := by simpa using hb
            subst this; subst z; exact hn ha⟩) h
        refine ⟨natOf d :: ns, by rw [List.map_cons, ← e1, h1], by rw [List.append_assoc] at h2; exact h2, fun x hx => ?_⟩
        rcases List.mem_cons.mp hx with z | z
        · subst z; exact e2
        · exact h3 x z
    · cases h
def rowI (d : D) : Option (List D) := match d with
  | .tup l => some l
  | .lst l => some l
  | _ => none
theorem rowI_some {d : D} {l : List D} (h : rowI d = some l) : d = .tup l ∨ d = .lst l := by
  cases d <;> simp [rowI] at h
  · exact .inl (by rw [h])
  · exact .inr (by rw [h])
theorem rowI_isRow (d : D) : isRow d = (rowI d).isSome := by cases d <;> rfl
theorem sorted_row {w : Nat} {ns : List Nat} {d : D} (hd : rowI d = some (ns.map nI)) (hn : ns.Nodup) (hw : ∀ x ∈ ns, x < w) (h : Hpp) : fSortedA false [d] h = .ok (lN (can w ns)) h := by
  have e : asS d h = some (ns.map nI) := by rcases rowI_some hd with z | z <;> subst z <;> rfl
  simp only [fSortedA, e, Option.bind_some, intsOf_nI, sort_can hn hw, map_nI, mkL]
  rfl
/-- a row as one of the numbers below w, or where it is none -/
inductive RowV (w : Nat) (d : D) : Prop
  | good (ns : List Nat) (e : rowI d = some (ns.map nI)) (hn : ns.Nodup) (hw : ∀ x ∈ ns, x < w)
  | bad (l : List D) (p : Nat) (e : rowI d = some l) (hs : strange w [] 0 l = some p)
  | none (e : rowI d = none)
theorem rowV (w : Nat) (d : D) : RowV w d := by
  cases e : rowI d with
  | none => exact .none e
  | some l =>
    cases hs : strange w [] 0 l with
    | some p => exact .bad l p e hs
    | none =>
      obtain ⟨ns, h1, h2, h3⟩ := strange_none w l [] 0 List.nodup_nil hs
      subst h1
      exact .good ns e (by simpa using h2) h3
/-- plain, and its items too -/
def plain2 (d : D) : Prop := plain d = true ∧ ∀ l, rowI d = some l → (∀ x ∈ l, plain x = true) ∧ l.length < 16777216
theorem s_places_good (w : Nat) (d : D) (h : Hpp) (hp : plain2 d) (ns : List Nat) (e : rowI d = some (ns.map nI)) (hn : ns.Nodup) (hw : ∀ x ∈ ns, x < w) : F_places_of [d, nI w] h = .ok (tN (can w ns)) h := by
  obtain ⟨p1, p2⟩ := hp.2 _ e
  have e1 := fun h => s_is_row d h hp.1
  have e2 := fun h => s_first_stranger w d h _ (rowI_some e) p1 p2
  rw [strange_ok hn hw] at e2
  have e3 := sorted_row e hn hw h
  simp [F_places_of, m_places_of, e1, e2, rowI_isRow, e, oNat, oIs, D.isNon, e3, fTuple, asS, asL, lN, tN, fnM, env0, sSeq, sSet, sRet, sRetN, sIf, sExpr, sNil, onR, eVar, eC, eOp, eAnd, eOr, eNot, eNeg, eIf, bAnd, bOr, bNot, bOp, bTru, asB, eChain, eCall, eFn, eFnD, eFnK, aCons, aNil, R.bind, List.length_cons, List.length_nil, List.replicate, List.map_cons, List.map_nil, List.cons_append, List.nil_append, List.getElem?_cons_zero, List.getElem?_cons_succ, List.set_cons_zero, List.set_cons_succ, finR, wipeE, tgN, truth, bYes, nI, pl_int, pl_bl, pl_non, pl_str, pl_tup, pl_lst]
theorem s_places_bad (w : Nat) (d : D) (h : Hpp) (hp : plain2 d) (l : List D) (p : Nat) (e : rowI d = some l) (hs : strange w [] 0 l = some p) : F_places_of [d, nI w] h = .exc 3 [("place", nI p)] h := by
  obtain ⟨p1, p2⟩ := hp.2 _ e
  have e1 := fun h => s_is_row d h hp.1
  have e2 := fun h => s_first_stranger w d h _ (rowI_some e) p1 p2
  rw [hs] at e2
  simp [F_places_of, m_places_of, e1, e2, rowI_isRow, e, oNat, oIs, D.isNon, sRaise, D.isRef, fnM, env0, sSeq, sSet, sRet, sRetN, sIf, sExpr, sNil, onR, eVar, eC, eOp, eAnd, eOr, eNot, eNeg, eIf, bAnd, bOr, bNot, bOp, bTru, asB, eChain, eCall, eFn, eFnD, eFnK, aCons, aNil, R.bind, List.length_cons, List.length_nil, List.replicate, List.map_cons, List.map_nil, List.cons_append, List.nil_append, List.getElem?_cons_zero, List.getElem?_cons_succ, List.set_cons_zero, List.set_cons_succ, finR, wipeE, tgN, truth, bYes, nI, pl_int, pl_bl, pl_non, pl_str, pl_tup, pl_lst]
theorem s_places_none (w : Nat) (d : D) (h : Hpp) (hp : plain d = true) (e : rowI d = none) : F_places_of [d, nI w] h = .exc 3 [("place", .int (-1))] h := by
  have e1 := fun h => s_is_row d h hp
  simp [F_places_of, m_places_of, e1, rowI_isRow, e, sRaise, D.isRef, fnM, env0, sSeq, sSet, sRet, sRetN, sIf, sExpr, sNil, onR, eVar, eC, eOp, eAnd, eOr, eNot, eNeg, eIf, bAnd, bOr, bNot, bOp, bTru, asB, eChain, eCall, eFn, eFnD, eFnK, aCons, aNil, R.bind, List.length_cons, List.length_nil, List.replicate, List.map_cons, List.map_nil, List.cons_append, List.nil_append, List.getElem?_cons_zero, List.getElem?_cons_succ, List.set_cons_zero, List.set_cons_succ, finR, wipeE, tgN, truth, bYes, nI, pl_int, pl_bl, pl_non, pl_str, pl_tup, pl_lst]
theorem s_lot_good (w : Nat) (d : D) (h : Hpp) (h1 : 1 ≤ w) (h2 : w ≤ 12) (hp : plain2 d) (ns : List Nat) (e : rowI d = some (ns.map nI)) (hn : ns.Nodup) (hw : ∀ x ∈ ns, x < w) : F_lot_of [d, nI w, .bl true] h = .ok (tN (can w ns)) h := by
  obtain ⟨p1, p2⟩ := hp.2 _ e
  have e0 := fun h => s_check_worlds w h h1 h2
  have e1 := fun h => s_is_row d h hp.1
  have e2 := fun h => s_first_stranger w d h _ (rowI_some e) p1 p2
  rw [strange_ok hn hw] at e2
  have e3 := sorted_row e hn hw h
  rcases rowI_some e with z | z <;> subst z <;> generalize ns.map nI = ls at * <;> cases ls <;>
    simp [F_lot_of, m_lot_of, e0, e1, e2, rowI_isRow, e, oNat, oIs, D.isNon, e3, fTuple, asS, asL, lN, tN, fnM, env0, sSeq, sSet, sRet, sRetN, sIf, sExpr, sNil, onR, eVar, eC, eOp, eAnd, eOr, eNot, eNeg, eIf, bAnd, bOr, bNot, bOp, bTru, asB, eChain, eCall, eFn, eFnD, eFnK, aCons, aNil, R.bind, List.length_cons, List.length_nil, List.replicate, List.map_cons, List.map_nil, List.cons_append, List.nil_append, List.getElem?_cons_zero, List.getElem?_cons_succ, List.set_cons_zero, List.set_cons_succ, finR, wipeE, tgN, truth, bYes, nI, pl_int, pl_bl, pl_non, pl_str, pl_tup, pl_lst]
theorem s_lot_bad (w : Nat) (d : D) (h : Hpp) (h1 : 1 ≤ w) (h2 : w ≤ 12) (hp : plain2 d) (l : List D) (p : Nat) (e : rowI d = some l) (hs : strange w [] 0 l = some p) : F_lot_of [d, nI w, .bl true] h = .exc 2 [("place", nI p)] h := by
  obtain ⟨p1, p2⟩ := hp.2 _ e
  have e0 := fun h => s_check_worlds w h h1 h2
  have e1 := fun h => s_is_row d h hp.1
  have e2 := fun h => s_first_stranger w d h _ (rowI_some e) p1 p2
  rw [hs] at e2
  simp [F_lot_of, m_lot_of, e0, e1, e2, rowI_isRow, e, oNat, oIs, D.isNon, sRaise, D.isRef, fnM, env0, sSeq, sSet, sRet, sRetN, sIf, sExpr, sNil, onR, eVar, eC, eOp, eAnd, eOr, eNot, eNeg, eIf, bAnd, bOr, bNot, bOp, bTru, asB, eChain, eCall, eFn, eFnD, eFnK, aCons, aNil, R.bind, List.length_cons, List.length_nil, List.replicate, List.map_cons, List.map_nil, List.cons_append, List.nil_append, List.getElem?_cons_zero, List.getElem?_cons_succ, List.set_cons_zero, List.set_cons_succ, finR, wipeE, tgN, truth, bYes, nI, pl_int, pl_bl, pl_non, pl_str, pl_tup, pl_lst]
theorem s_lot_none (w : Nat) (d : D) (h : Hpp) (h1 : 1 ≤ w) (h2 : w ≤ 12) (hp : plain d = true) (e : rowI d = none) : F_lot_of [d, nI w, .bl true] h = .exc 2 [("place", .int (-1))] h := by
  have e0 := fun h => s_check_worlds w h h1 h2
  have e1 := fun h => s_is_row d h hp
  simp [F_lot_of, m_lot_of, e0, e1, rowI_isRow, e, sRaise, D.isRef, fnM, env0, sSeq, sSet, sRet, sRetN, sIf, sExpr, sNil, onR, eVar, eC, eOp, eAnd, eOr, eNot, eNeg, eIf, bAnd, bOr, bNot, bOp, bTru, asB, eChain, eCall, eFn, eFnD, eFnK, aCons, aNil, R.bind, List.length_cons, List.length_nil, List.replicate, List.map_cons, List.map_nil, List.cons_append, List.nil_append, List.getElem?_cons_zero, List.getElem?_cons_succ, List.set_cons_zero, List.set_cons_succ, finR, wipeE, tgN, truth, bYes, nI, pl_int, pl_bl, pl_non, pl_str, pl_tup, pl_lst]
/-- a row that tells a lot -/
structure Good (w : Nat) (p : D × List Nat) : Prop where
  e : rowI p.1 = some (p.2.map nI)
  n : p.2.Nodup
  l : ∀ x ∈ p.2, x < w
  p : plain2 p.1
def Wrong (w : Nat) (d : D) : Prop := (∃ l p, rowI d = some l ∧ strange w [] 0 l = some p ∧ plain2 d) ∨ (rowI d = none ∧ plain d = true)
abbrev baseB : SM := sTryOnly [2] (sExpr (eMt (eVar 3) (aCons (eFnK 2 1 F_lot_of (aCons (eVar 5) (aCons (eVar 1) aNil)) (aCons (eVar 2) aNil)) aNil) fAppend)) (sRaise 4 "place" (eVar 4))
theorem base_good {w : Nat} (h1 : 1 ≤ w) (h2 : w ≤ 12) (base : D) (k : Nat) (h : Hpp) {p : D × List Nat} (g : Good w p) (acc : List (List Nat)) (hz : acc.length < 16777216) :
    baseB [some base, some (nI w), some (.bl true), some (.ref h.length), some (nI k), some p.1] (h ++ [.lst (acc.map tN)]) = .nx [some base, some (nI w), some (.bl true), some (.ref h.length), some (nI k), some p.1] (h ++ [.lst ((acc ++ [can w p.2]).map tN)]) := by
  have e1 := fun h => s_lot_good w p.1 h h1 h2 g.p p.2 g.e g.n g.l
  have eap := app_c h (acc.map tN) (tN (can w p.2)) rfl (by simp; exact hz)
  rw [show acc.map tN ++ [tN (can w p.2)] = (acc ++ [can w p.2]).map tN by simp] at eap
  simp [baseB, sTryOnly, eMt, e1, asL_c, eap, fnM, env0, sSeq, sSet, sRet, sRetN, sIf, sExpr, sNil, onR, eVar, eC, eOp, eAnd, eOr, eNot, eNeg, eIf, bAnd, bOr, bNot, bOp, bTru, asB, eChain, eCall, eFn, eFnD, eFnK, aCons, aNil, R.bind, List.length_cons, List.length_nil, List.replicate, List.map_cons, List.map_nil, List.cons_append, List.nil_append, List.getElem?_cons_zero, List.getElem?_cons_succ, List.set_cons_zero, List.set_cons_succ, finR, wipeE, tgN, truth, bYes, nI, pl_int, pl_bl, pl_non, pl_str, pl_tup, pl_lst]
theorem base_wrong {w : Nat} (h1 : 1 ≤ w) (h2 : w ≤ 12) (base : D) (k : Nat) (h : Hpp) {d : D} (g : Wrong w d) (l : List D) :
    baseB [some base, some (nI w), some (.bl true), some (.ref h.length), some (nI k), some d] (h ++ [.lst l]) = .exc 4 [("place", nI k)] [some base, some (nI w), some (.bl true), some (.ref h.length), some (nI k), some d] (h ++ [.lst l]) := by
  rcases g with ⟨l', p, g1, g2, g3⟩ | ⟨g1, g2⟩
  · have e1 := fun h => s_lot_bad w d h h1 h2 g3 l' p g1 g2
    simp [baseB, sTryOnly, eMt, e1, asL_c, sRaise, D.isRef, fnM, env0, sSeq, sSet, sRet, sRetN, sIf, sExpr, sNil, onR, eVar, eC, eOp, eAnd, eOr, eNot, eNeg, eIf, bAnd, bOr, bNot, bOp, bTru, asB, eChain, eCall, eFn, eFnD, eFnK, aCons, aNil, R.bind, List.length_cons, List.length_nil, List.replicate, List.map_cons, List.map_nil, List.cons_append, List.nil_append, List.getElem?_cons_zero, List.getElem?_cons_succ, List.set_cons_zero, List.set_cons_succ, finR, wipeE, tgN, truth, bYes, nI, pl_int, pl_bl, pl_non, pl_str, pl_tup, pl_lst]
  · have e1 := fun h => s_lot_none w d h h1 h2 g2 g1
    simp [baseB, sTryOnly, eMt, e1, asL_c, sRaise, D.isRef, fnM, env0, sSeq, sSet, sRet, sRetN, sIf, sExpr, sNil, onR, eVar, eC, eOp, eAnd, eOr, eNot, eNeg, eIf, bAnd, bOr, bNot, bOp, bTru, asB, eChain, eCall, eFn, eFnD, eFnK, aCons, aNil, R.bind, List.length_cons, List.length_nil, List.replicate, List.map_cons, List.map_nil, List.cons_append, List.nil_append, List.getElem?_cons_zero, List.getElem?_cons_succ, List.set_cons_zero, List.set_cons_succ, finR, wipeE, tgN, truth, bYes, nI, pl_int, pl_bl, pl_non, pl_str, pl_tup, pl_lst]
theorem base_loop {w : Nat} (h1 : 1 ≤ w) (h2 : w ≤ 12) (base : D) (h : Hpp) (rest : List D) : ∀ (gs : List (D × List Nat)) (acc : List (List Nat)) (k : Nat) (x y : Option D), (∀ p ∈ gs, Good w p) → acc.length + gs.length < 16777216 →
    ∃ x' y', forGo [] (tgT [4, 5]) baseB (enF k (gs.map (·.1) ++ rest)) [some base, some (nI w), some (.bl true), some (.ref h.length), x, y] (h ++ [.lst (acc.map tN)]) =
      forGo [] (tgT [4, 5]) baseB (enF (k + gs.length) rest) [some base, some (nI w), some (.bl true), some (.ref h.length), x', y'] (h ++ [.lst ((acc ++ gs.map fun p => can w p.2).map tN)])
  | [], acc, k, x, y, _, _ => ⟨x, y, by simp⟩
  | p :: gs, acc, k, x, y, hg, hz => by
    obtain ⟨x', y', ih⟩ := base_loop h1 h2 base h rest gs (acc ++ [can w p.2]) (k + 1) (some (nI k)) (some p.1) (fun q hq => hg q (List.mem_cons_of_mem _ hq)) (by simp at hz ⊢; omega)
    have st := base_good h1 h2 base k h (hg p List.mem_cons_self) acc (by simp at hz; omega)
    have tg : tgT [4, 5] (.tup [nI k, p.1]) [some base, some (nI w), some (.bl true), some (.ref h.length), x, y] = some [some base, some (nI w), some (.bl true), some (.ref h.length), some (nI k), some p.1] := by simp [tgT, tgs]
    refine ⟨x', y', ?_⟩
    simp only [List.map_cons, List.cons_append, enF]
    rw [forGo, if_pos (srcOk_nil _)]
    simp only [tg, st, ih]
    rw [List.append_assoc, List.length_cons, show k + 1 + gs.length = k + (gs.length + 1) by omega]; rfl
theorem s_base_ok {w : Nat} (h1 : 1 ≤ w) (h2 : w ≤ 12) (base : D) (h : Hpp) (gs : List (D × List Nat)) (hb : rowI base = some (gs.map (·.1))) (hp : plain base = true) (hg : ∀ p ∈ gs, Good w p) (hz : gs.length ≤ 8) : F_base_lots [base, nI w, .bl true] h = .ok (tTs (gs.map fun p => can w p.2)) h := by
  have e0 := fun h => s_check_worlds w h h1 h2
  have e1 := fun h => s_is_row base h hp
  obtain ⟨x, y, e2⟩ := base_loop h1 h2 base h [] gs [] 0 none none hg (by simp; omega)
  rw [List.append_nil] at e2
  rw [enF, forGo, if_pos (srcOk_nil _)] at e2
  have it := iEnu_at (i := 0) (env := [some base, some (nI w), some (.bl true), some (.ref h.length), none, none]) (h := h ++ [.lst []]) rfl (rowI_some hb)
  have ez : ¬ (8 < (gs.length : Int)) := by omega
  simp only [List.map_nil, List.nil_append] at e2
  simp [F_base_lots, m_base_lots, e0, e1, rowI_isRow, hb, sFor, eLst, mkL, noRefs, it, e2, fLen, asS_c, oCmp, oI0, ez, fTuple, tTs, fnM, env0, sSeq, sSet, sRet, sRetN, sIf, sExpr, sNil, onR, eVar, eC, eOp, eAnd, eOr, eNot, eNeg, eIf, bAnd, bOr, bNot, bOp, bTru, asB, eChain, eCall, eFn, eFnD, eFnK, aCons, aNil, R.bind, List.length_cons, List.length_nil, List.replicate, List.map_cons, List.map_nil, List.cons_append, List.nil_append, List.getElem?_cons_zero, List.getElem?_cons_succ, List.set_cons_zero, List.set_cons_succ, finR, wipeE, tgN, truth, bYes, nI, pl_int, pl_bl, pl_non, pl_str, pl_tup, pl_lst]
theorem s_base_many {w : Nat} (h1 : 1 ≤ w) (h2 : w ≤ 12) (base : D) (h : Hpp) (gs : List (D × List Nat)) (hb : rowI base = some (gs.map (·.1))) (hp : plain base = true) (hg : ∀ p ∈ gs, Good w p) (hz : 8 < gs.length) (hz2 : gs.length < 100) : F_base_lots [base, nI w, .bl true] h = .exc 5 [("limit", .int 8)] h := by
  have e0 := fun h => s_check_worlds w h h1 h2
  have e1 := fun h => s_is_row base h hp
  obtain ⟨x, y, e2⟩ := base_loop h1 h2 base h [] gs [] 0 none none hg (by simp; omega)
  rw [List.append_nil] at e2
  rw [enF, forGo, if_pos (srcOk_nil _)] at e2
  have it := iEnu_at (i := 0) (env := [some base, some (nI w), some (.bl true), some (.ref h.length), none, none]) (h := h ++ [.lst []]) rfl (rowI_some hb)
  have ez : (8 < (gs.length : Int)) := by omega
  simp only [List.map_nil, List.nil_append] at e2
  simp [F_base_lots, m_base_lots, e0, e1, rowI_isRow, hb, sFor, eLst, mkL, noRefs, it, e2, fLen, asS_c, oCmp, oI0, ez, sRaise, D.isRef, fnM, env0, sSeq, sSet, sRet, sRetN, sIf, sExpr, sNil, onR, eVar, eC, eOp, eAnd, eOr, eNot, eNeg, eIf, bAnd, bOr, bNot, bOp, bTru, asB, eChain, eCall, eFn, eFnD, eFnK, aCons, aNil, R.bind, List.length_cons, List.length_nil, List.replicate, List.map_cons, List.map_nil, List.cons_append, List.nil_append, List.getElem?_cons_zero, List.getElem?_cons_succ, List.set_cons_zero, List.set_cons_succ, finR, wipeE, tgN, truth, bYes, nI, pl_int, pl_bl, pl_non, pl_str, pl_tup, pl_lst]
theorem s_base_wrong {w : Nat} (h1 : 1 ≤ w) (h2 : w ≤ 12) (base : D) (h : Hpp) (gs : List (D × List Nat)) (d : D) (rest : List D) (hb : rowI base = some (gs.map (·.1) ++ d :: rest)) (hp : plain base = true) (hg : ∀ p ∈ gs, Good w p) (hd : Wrong w d) (hz2 : gs.length < 100) : F_base_lots [base, nI w, .bl true] h = .exc 4 [("place", nI gs.length)] h := by
  have e0 := fun h => s_check_worlds w h h1 h2
  have e1 := fun h => s_is_row base h hp
  obtain ⟨x, y, e2⟩ := base_loop h1 h2 base h (d :: rest) gs [] 0 none none hg (by simp; omega)
  have st := base_wrong h1 h2 base gs.length h hd ((gs.map fun p => can w p.2).map tN)
  have tg : tgT [4, 5] (.tup [nI gs.length, d]) [some base, some (nI w), some (.bl true), some (.ref h.length), x, y] = some [some base, some (nI w), some (.bl true), some (.ref h.length), some (nI gs.length), some d] := by simp [tgT, tgs]
  rw [Nat.zero_add, enF, forGo, if_pos (srcOk_nil _)] at e2
  simp only [List.map_nil, List.nil_append, tg, st] at e2
  have it := iEnu_at (i := 0) (env := [some base, some (nI w), some (.bl true), some (.ref h.length), none, none]) (h := h ++ [.lst []]) rfl (rowI_some hb)
  simp [F_base_lots, m_base_lots, e0, e1, rowI_isRow, hb, sFor, eLst, mkL, noRefs, it, e2, fnM, env0, sSeq, sSet, sRet, sRetN, sIf, sExpr, sNil, onR, eVar, eC, eOp, eAnd, eOr, eNot, eNeg, eIf, bAnd, bOr, bNot, bOp, bTru, asB, eChain, eCall, eFn, eFnD, eFnK, aCons, aNil, R.bind, List.length_cons, List.length_nil, List.replicate, List.map_cons, List.map_nil, List.cons_append, List.nil_append, List.getElem?_cons_zero, List.getElem?_cons_succ, List.set_cons_zero, List.set_cons_succ, finR, wipeE, tgN, truth, bYes, nI, pl_int, pl_bl, pl_non, pl_str, pl_tup, pl_lst]
theorem s_base_none {w : Nat} (h1 : 1 ≤ w) (h2 : w ≤ 12) (base : D) (h : Hpp) (hb : rowI base = none) (hp : plain base = true) : F_base_lots [base, nI w, .bl true] h = .exc 4 [("place", .int (-1))] h := by
  have e0 := fun h => s_check_worlds w h h1 h2
  have e1 := fun h => s_is_row base h hp
  simp [F_base_lots, m_base_lots, e0, e1, rowI_isRow, hb, sRaise, D.isRef, fnM, env0, sSeq, sSet, sRet, sRetN, sIf, sExpr, sNil, onR, eVar, eC, eOp, eAnd, eOr, eNot, eNeg, eIf, bAnd, bOr, bNot, bOp, bTru, asB, eChain, eCall, eFn, eFnD, eFnK, aCons, aNil, R.bind, List.length_cons, List.length_nil, List.replicate, List.map_cons, List.map_nil, List.cons_append, List.nil_append, List.getElem?_cons_zero, List.getElem?_cons_succ, List.set_cons_zero, List.set_cons_succ, finR, wipeE, tgN, truth, bYes, nI, pl_int, pl_bl, pl_non, pl_str, pl_tup, pl_lst]
end Law
end
end
section
set_option Elab.async false
set_option linter.all false
set_option maxRecDepth 100000
set_option maxHeartbeats 400000
noncomputable section
namespace Law
open Nb
theorem rngD_nat (a b : Nat) : rngD a b = (List.range' a (b - a)).map nI := by
  have e : ((b : Int) - (a : Int)).toNat = b - a := by omega
  unfold rngD
  rw [e, List.range'_eq_map_range, List.map_map]
  refine List.map_congr_left fun i _ => ?_
  simp [nI]
theorem rngD_0 (b : Nat) : rngD 0 b = (List.range b).map nI := by
  have := rngD_nat 0 b
  rw [Nat.sub_zero, ← List.range_eq_range', Int.natCast_zero] at this
  exact this
theorem okRng_nat {a b : Nat} (hb : b ≤ 1000) (ha : a ≤ 1000) : okRng a b = true := by
  have e : (((b : Int) - (a : Int)).toNat ≤ LINE) := by show _ ≤ 16777216; omega
  exact okRng_to ⟨by omega, by omega, by omega, by omega, e⟩
theorem okRng_0 {b : Nat} (hb : b ≤ 1000) : okRng 0 (b : Int) = true := by
  have e := okRng_nat (a := 0) hb (by omega)
  rw [Int.natCast_zero] at e
  exact e
theorem atI_nat {α : Type} (l : List α) (i : Nat) (h : i < l.length) : L2.atI l (i : Int) = l[i]? := by
  have e : L2.ixN l.length (i : Int) = some i := by
    unfold L2.ixN
    rw [if_pos (by omega), if_pos (by omega)]; simp
  unfold L2.atI
  rw [e]; rfl
theorem oIx_row {d : D} {l : List D} {h : Hpp} (hd : asS d h = some l) {i : Nat} {x : D} (hx : l[i]? = some x) : oIx d (nI i) h = .ok x h := by
  have hi := (List.getElem?_eq_some_iff.mp hx).1
  simp only [oIx, nI, hd, atI_nat l i hi, hx]
theorem oIx_tTs {ls : List (List Nat)} {h : Hpp} {i : Nat} (hi : i < ls.length) : oIx (tTs ls) (nI i) h = .ok (tN (ls.getD i [])) h := by
  refine oIx_row (l := ls.map tN) rfl ?_
  rw [List.getElem?_map, List.getD, List.getElem?_eq_getElem hi]; rfl
theorem oIx_lT {ls : List (List Nat)} {h : Hpp} {i : Nat} (hi : i < ls.length) : oIx (lT ls) (nI i) h = .ok (tN (ls.getD i [])) h := by
  refine oIx_row (l := ls.map tN) rfl ?_
  rw [List.getElem?_map, List.getD, List.getElem?_eq_getElem hi]; rfl
theorem blsOf_f {α : Type} (f : α → Bool) (l : List α) : blsOf (l.map fun x => D.bl (f x)) = some (l.map f) := by
  have := blsOf_map (l.map f)
  rw [List.map_map] at this
  exact this
theorem fAll_f {α : Type} (f : α → Bool) (l : List α) (h : Hpp) : fAll [.lst (l.map fun x => D.bl (f x))] h = .ok (.bl (l.all f)) h := by
  have e : (asL (.lst (l.map fun x => D.bl (f x))) h).bind blsOf = some (l.map f) := by
    show blsOf _ = _
    exact blsOf_f f l
  simp only [fAll, fAllAny, e, List.all_map]; rfl
theorem fAny_f {α : Type} (f : α → Bool) (l : List α) (h : Hpp) : fAny [.lst (l.map fun x => D.bl (f x))] h = .ok (.bl (l.any f)) h := by
  have e : (asL (.lst (l.map fun x => D.bl (f x))) h).bind blsOf = some (l.map f) := by
    show blsOf _ = _
    exact blsOf_f f l
  simp only [fAny, fAllAny, e, List.any_map]; rfl
theorem filter_yes {α : Type} (l : List α) : l.filter (fun _ => true) = l := List.filter_eq_self.mpr fun _ _ => rfl
/-- items told by a number row -/
theorem iAny_tN {i : Nat} {env : Nb.Env} {l : List Nat} {h : Hpp} (he : env[i]? = some (some (tN l))) : iAny (eVar i) env h = .ok ⟨l.map nI, []⟩ h := iAny_at he (.inl rfl)
theorem iAny_tTs {i : Nat} {env : Nb.Env} {l : List (List Nat)} {h : Hpp} (he : env[i]? = some (some (tTs l))) : iAny (eVar i) env h = .ok ⟨l.map tN, []⟩ h := iAny_at he (.inl rfl)
theorem iAny_lT {i : Nat} {env : Nb.Env} {l : List (List Nat)} {h : Hpp} (he : env[i]? = some (some (lT l))) : iAny (eVar i) env h = .ok ⟨l.map tN, []⟩ h := iAny_at he (.inr rfl)
theorem iAny_e {m : EM} {env : Nb.Env} {d : D} {l : List D} {h : Hpp} (he : m env h = .ok d h) (hr : d = .tup l ∨ d = .lst l) : iAny m env h = .ok ⟨l, []⟩ h := by
  rcases hr with z | z <;> subst z <;> simp [iAny, he, R.bind, itOf, asS, asL, srcOf]
theorem iRg1_e {m : M (List D)} {env : Nb.Env} {n : Nat} {h : Hpp} (hn : n ≤ 1000) (he : m env h = .ok [nI n] h) : iRg1 m env h = .ok ⟨(List.range n).map nI, []⟩ h := by
  simp only [iRg1, he, R.bind, nI, okRng_0 hn, if_true, rngD_0]
theorem sN (h : Hpp) : ∀ c : Cell, srcOk [] (h ++ [c]) := fun _ => srcOk_nil _
/-- a comprehension that tests nothing -/
theorem lc_map {α : Type} {mi : M ItS} {t : Tg} {te : EM} {vs : List Nat} {env : Nb.Env} {h : Hpp} (inj : α → D) (xs : List α) (g : α → D) (hmi : mi env h = .ok ⟨xs.map inj, []⟩ h)
    (ht : ∀ x ∈ xs, ∀ c, ∃ e, t (inj x) (wipeE env vs) = some e ∧ te e (h ++ [c]) = .ok (g x) (h ++ [c])) (hr : ∀ x, (g x).isRef = false) :
    eLc false mi t bYes te vs env h = .ok (.lst (xs.map g)) h := by
  have := lc_typed (tt := bYes) inj xs (fun _ => true) g hmi (sN h) (fun x hx c => by
    obtain ⟨e, e1, e2⟩ := ht x hx c
    exact ⟨e, e1, rfl, fun _ => e2⟩) hr
  rw [filter_yes] at this
  exact this
theorem lc_fil {α : Type} {mi : M ItS} {t : Tg} {tt : M Bool} {te : EM} {vs : List Nat} {env : Nb.Env} {h : Hpp} (inj : α → D) (xs : List α) (p : α → Bool) (g : α → D) (hmi : mi env h = .ok ⟨xs.map inj, []⟩ h)
    (ht : ∀ x ∈ xs, ∀ c, ∃ e, t (inj x) (wipeE env vs) = some e ∧ tt e (h ++ [c]) = .ok (p x) (h ++ [c]) ∧ te e (h ++ [c]) = .ok (g x) (h ++ [c])) (hr : ∀ x, (g x).isRef = false) :
    eLc false mi t tt te vs env h = .ok (.lst ((xs.filter p).map g)) h :=
  lc_typed inj xs p g hmi (sN h) (fun x hx c => by
    obtain ⟨e, e1, e2, e3⟩ := ht x hx c
    exact ⟨e, e1, e2, fun _ => e3⟩) hr
theorem fTuple_lst (l : List D) (h : Hpp) : fTuple [.lst l] h = .ok (.tup l) h := rfl
theorem fTuple_tup (l : List D) (h : Hpp) : fTuple [.tup l] h = .ok (.tup l) h := rfl
theorem finR_nr {md : Bool} {k : Nat} {d : D} {h : Hpp} (hr : d.isRef = false) : finR md k d h = .ok d (h.take k) := by
  cases d <;> first | rfl | cases hr
theorem fin_same {md : Bool} {d : D} {h : Hpp} (hr : d.isRef = false) : finR md h.length d h = .ok d h := by rw [finR_nr hr, List.take_length]
theorem fin_cell {md : Bool} {d : D} {h : Hpp} {c : Cell} (hr : d.isRef = false) : finR md h.length d (h ++ [c]) = .ok d h := by rw [finR_nr hr, c_take]
theorem mRg1_e {m : EM} {env : Nb.Env} {n : Nat} {h : Hpp} (hn : n ≤ 1000) (he : m env h = .ok (nI n) h) : mRg1 m env h = .ok (0, (n : Int)) h := by
  simp only [mRg1, he, R.bind, nI, okRng_0 hn, if_true]
theorem mRg2_e {m m2 : EM} {env : Nb.Env} {a b : Nat} {h : Hpp} (ha : a ≤ 1000) (hb : b ≤ 1000) (he : m env h = .ok (nI a) h) (he2 : m2 env h = .ok (nI b) h) : mRg2 m m2 env h = .ok ((a : Int), (b : Int)) h := by
  simp only [mRg2, he, he2, R.bind, nI, okRng_nat hb ha, if_true]
theorem eTupRg_e {r : M (Int × Int)} {env : Nb.Env} {n : Nat} {h : Hpp} (he : r env h = .ok (0, (n : Int)) h) : eTupRg r env h = .ok (tN (List.range n)) h := by
  simp only [eTupRg, he, R.bind, rngD_0, tN]
theorem eTupRg_e2 {r : M (Int × Int)} {env : Nb.Env} {a b : Nat} {h : Hpp} (he : r env h = .ok ((a : Int), (b : Int)) h) : eTupRg r env h = .ok (tN (List.range' a (b - a))) h := by
  simp only [eTupRg, he, R.bind, rngD_nat, tN]
theorem s_every (w : Nat) (h : Hpp) (h1 : 1 ≤ w) (h2 : w ≤ 12) : F_every [nI w] h = .ok (tN (List.range w)) h := by
  have e0 := fun h => s_check_worlds w h h1 h2
  have e1 : eTupRg (mRg1 (eVar 0)) [some (nI w)] h = .ok (tN (List.range w)) h := eTupRg_e (mRg1_e (by omega) rfl)
  simp only [F_every, m_every, fnM, env0, List.map_cons, List.map_nil, List.length_cons, List.length_nil, Nat.sub_self, List.replicate, List.append_nil, sSeq, sExpr, onR, eFn, aCons, aNil, eVar, List.getElem?_cons_zero, R.bind, e0, if_true, sRet, e1, Nat.zero_add]
  exact fin_same rfl
theorem s_inside (a b : List Nat) (h : Hpp) : F_inside [tN a, tN b] h = .ok (.bl (a.all fun x => decide (x ∈ b))) h := by
  have e := lc_map (te := eOp (oIn false) (eVar 2) (eVar 1)) (t := tgN 2) (vs := [2]) (env := [some (tN a), some (tN b), none]) (h := h) nI a (fun x => .bl (decide (x ∈ b))) (iAny_tN (i := 0) rfl) (fun x _ c => ⟨[some (tN a), some (tN b), some (nI x)], by simp [tgN, wipeE], by simp [oIn_tN, fnM, env0, sSeq, sSet, sRet, sRetN, sIf, sExpr, sNil, onR, eVar, eC, eOp, eAnd, eOr, eNot, eNeg, eIf, bAnd, bOr, bNot, bOp, bTru, asB, eChain, eCall, eFn, eFnD, eFnK, aCons, aNil, R.bind, List.length_cons, List.length_nil, List.replicate, List.map_cons, List.map_nil, List.cons_append, List.nil_append, List.getElem?_cons_zero, List.getElem?_cons_succ, List.set_cons_zero, List.set_cons_succ, finR, wipeE, tgN, truth, bYes, nI, pl_int, pl_bl, pl_non, pl_str, pl_tup, pl_lst]⟩) fun _ => rfl
  simp [F_inside, m_inside, e, fAll_f, fnM, env0, sSeq, sSet, sRet, sRetN, sIf, sExpr, sNil, onR, eVar, eC, eOp, eAnd, eOr, eNot, eNeg, eIf, bAnd, bOr, bNot, bOp, bTru, asB, eChain, eCall, eFn, eFnD, eFnK, aCons, aNil, R.bind, List.length_cons, List.length_nil, List.replicate, List.map_cons, List.map_nil, List.cons_append, List.nil_append, List.getElem?_cons_zero, List.getElem?_cons_succ, List.set_cons_zero, List.set_cons_succ, finR, wipeE, tgN, truth, bYes, nI, pl_int, pl_bl, pl_non, pl_str, pl_tup, pl_lst]
theorem s_meets (a b : List Nat) (h : Hpp) : F_meets [tN a, tN b] h = .ok (.bl (a.any fun x => decide (x ∈ b))) h := by
  have e := lc_map (te := eOp (oIn false) (eVar 2) (eVar 1)) (t := tgN 2) (vs := [2]) (env := [some (tN a), some (tN b), none]) (h := h) nI a (fun x => .bl (decide (x ∈ b))) (iAny_tN (i := 0) rfl) (fun x _ c => ⟨[some (tN a), some (tN b), some (nI x)], by simp [tgN, wipeE], by simp [oIn_tN, fnM, env0, sSeq, sSet, sRet, sRetN, sIf, sExpr, sNil, onR, eVar, eC, eOp, eAnd, eOr, eNot, eNeg, eIf, bAnd, bOr, bNot, bOp, bTru, asB, eChain, eCall, eFn, eFnD, eFnK, aCons, aNil, R.bind, List.length_cons, List.length_nil, List.replicate, List.map_cons, List.map_nil, List.cons_append, List.nil_append, List.getElem?_cons_zero, List.getElem?_cons_succ, List.set_cons_zero, List.set_cons_succ, finR, wipeE, tgN, truth, bYes, nI, pl_int, pl_bl, pl_non, pl_str, pl_tup, pl_lst]⟩) fun _ => rfl
  simp [F_meets, m_meets, e, fAny_f, fnM, env0, sSeq, sSet, sRet, sRetN, sIf, sExpr, sNil, onR, eVar, eC, eOp, eAnd, eOr, eNot, eNeg, eIf, bAnd, bOr, bNot, bOp, bTru, asB, eChain, eCall, eFn, eFnD, eFnK, aCons, aNil, R.bind, List.length_cons, List.length_nil, List.replicate, List.map_cons, List.map_nil, List.cons_append, List.nil_append, List.getElem?_cons_zero, List.getElem?_cons_succ, List.set_cons_zero, List.set_cons_succ, finR, wipeE, tgN, truth, bYes, nI, pl_int, pl_bl, pl_non, pl_str, pl_tup, pl_lst]
/-- a row that tells the ascending row S of numbers below n -/
def GR (n : Nat) (d : D) (S : List Nat) : Prop := ∃ ns, rowI d = some (ns.map nI) ∧ ns.Nodup ∧ (∀ x ∈ ns, x < n) ∧ plain2 d ∧ S = can n ns
theorem GR.canon {n : Nat} {d : D} {S : List Nat} (g : GR n d S) : canon n S := by
  obtain ⟨ns, _, _, _, _, rfl⟩ := g
  exact ⟨can_pair n ns, fun x hx => (can_mem.mp hx).1⟩
theorem plain2_rowN {d : D} {ns : List Nat} (h : d = .tup (ns.map nI) ∨ d = .lst (ns.map nI)) (hl : ns.length < 16777216) : plain2 d := by
  rcases h with z | z <;> subst z <;> refine ⟨rfl, fun l hl' => ?_⟩ <;> cases hl' <;> exact ⟨fun x hx => by
    obtain ⟨n, _, rfl⟩ := List.mem_map.mp hx
    rfl, by simpa using hl⟩
theorem GR_perm {n : Nat} {S ns : List Nat} (hc : Nb.canon n S) (hp : ns.Perm S) (hn : n ≤ 1000) {d : D} (hd : d = .tup (ns.map nI) ∨ d = .lst (ns.map nI)) : GR n d S := by
  refine ⟨ns, by rcases hd with z | z <;> subst z <;> rfl, hp.nodup_iff.mpr (nodup_of_lt hc.1), fun x hx => hc.2 x (hp.mem_iff.mp hx), plain2_rowN hd ?_, ?_⟩
  · have := canon_length hc
    rw [hp.length_eq]; omega
  · exact (can_self hc.1 hc.2).symm.trans (can_congr fun x => hp.mem_iff.symm)
theorem GR_tN {n : Nat} {S : List Nat} (hc : Nb.canon n S) (hn : n ≤ 1000) : GR n (tN S) S := GR_perm hc (List.Perm.refl _) hn (.inl rfl)
theorem GR_rev {n : Nat} {S : List Nat} (hc : Nb.canon n S) (hn : n ≤ 1000) : GR n (lN S.reverse) S := GR_perm hc (List.reverse_perm S) hn (.inr rfl)
theorem GR_revT {n : Nat} {S : List Nat} (hc : Nb.canon n S) (hn : n ≤ 1000) : GR n (tN S.reverse) S := GR_perm hc (List.reverse_perm S) hn (.inl rfl)
theorem s_places {n : Nat} {d : D} {S : List Nat} (g : GR n d S) (h : Hpp) : F_places_of [d, nI n] h = .ok (tN S) h := by
  obtain ⟨ns, e1, e2, e3, e4, rfl⟩ := g
  exact s_places_good n d h e4 ns e1 e2 e3
theorem s_lot {w : Nat} (h1 : 1 ≤ w) (h2 : w ≤ 12) {d : D} {S : List Nat} (g : GR w d S) (h : Hpp) : F_lot_of [d, nI w, .bl true] h = .ok (tN S) h := by
  obtain ⟨ns, e1, e2, e3, e4, rfl⟩ := g
  exact s_lot_good w d h h1 h2 e4 ns e1 e2 e3
/-- a row of such rows: a base -/
def GB (w : Nat) (d : D) (lots : List (List Nat)) : Prop := ∃ gs : List (D × List Nat), rowI d = some (gs.map (·.1)) ∧ plain d = true ∧ (∀ p ∈ gs, Good w p) ∧ gs.length ≤ 8 ∧ lots = gs.map fun p => can w p.2
theorem GB.len {w : Nat} {d : D} {lots : List (List Nat)} (g : GB w d lots) : lots.length ≤ 8 := by
  obtain ⟨gs, _, _, _, h, rfl⟩ := g; simpa using h
theorem GB.can {w : Nat} {d : D} {lots : List (List Nat)} (g : GB w d lots) : ∀ l ∈ lots, Nb.canon w l := by
  obtain ⟨gs, _, _, _, h, rfl⟩ := g
  intro l hl
  obtain ⟨p, _, rfl⟩ := List.mem_map.mp hl
  exact ⟨can_pair _ _, fun x hx => (can_mem.mp hx).1⟩
theorem s_base_lots {w : Nat} (h1 : 1 ≤ w) (h2 : w ≤ 12) {d : D} {lots : List (List Nat)} (g : GB w d lots) (h : Hpp) : F_base_lots [d, nI w, .bl true] h = .ok (tTs lots) h := by
  obtain ⟨gs, e1, e2, e3, e4, rfl⟩ := g
  exact s_base_ok h1 h2 d h gs e1 e2 e3 e4
theorem s_base_of {w : Nat} (h1 : 1 ≤ w) (h2 : w ≤ 12) {d : D} {lots : List (List Nat)} (g : GB w d lots) (h : Hpp) : F_base_of [d, nI w] h = .ok (tTs lots) h := by
  have e := s_base_lots h1 h2 g h
  simp only [F_base_of, m_base_of, fnM, env0, sSeq, sSet, sRet, sRetN, sIf, sExpr, sNil, onR, eVar, eC, eOp, eAnd, eOr, eNot, eNeg, eIf, bAnd, bOr, bNot, bOp, bTru, asB, eChain, eCall, eFn, eFnD, eFnK, aCons, aNil, R.bind, List.length_cons, List.length_nil, List.replicate, List.map_cons, List.map_nil, List.cons_append, List.nil_append, List.getElem?_cons_zero, List.getElem?_cons_succ, List.set_cons_zero, List.set_cons_succ, wipeE, tgN, truth, bYes, nI, pl_int, pl_bl, pl_non, pl_str, pl_tup, pl_lst]
  simp only [nI] at e ⊢
  simp only [e, if_true]
  exact fin_same rfl
/-- the worlds in all lots of S -/
def saysL (w : Nat) (lots : List (List Nat)) (S : List Nat) : List Nat := (List.range w).filter fun x => S.all fun i => decide (x ∈ lots.getD i [])
theorem fLen_tTs (ls : List (List Nat)) (h : Hpp) : fLen [tTs ls] h = .ok (nI ls.length) h := by simp [fLen, tTs, asS]
theorem fLen_lT (ls : List (List Nat)) (h : Hpp) : fLen [lT ls] h = .ok (nI ls.length) h := by simp [fLen, lT, asS, asL]
theorem fLen_tN (ls : List Nat) (h : Hpp) : fLen [tN ls] h = .ok (nI ls.length) h := by simp [fLen, tN, asS]
theorem fLen_lN (ls : List Nat) (h : Hpp) : fLen [lN ls] h = .ok (nI ls.length) h := by simp [fLen, lN, asS, asL]
theorem s_says {w : Nat} (h1 : 1 ≤ w) (h2 : w ≤ 12) {d sub : D} {lots : List (List Nat)} {S : List Nat} (g : GB w d lots) (gs : GR lots.length sub S) (h : Hpp) : F_says [d, nI w, sub] h = .ok (tN (saysL w lots S)) h := by
  have e1 := s_base_of h1 h2 g h
  have e2 := s_places gs h
  have e3 : ∀ (x : Nat) (h : Hpp), eLc false (iAny (eVar 4)) (tgN 6) bYes (eOp (oIn false) (eVar 5) (eOp oIx (eVar 3) (eVar 6))) [6] [some d, some (nI w), some sub, some (tTs lots), some (tN S), some (nI x), none] h = .ok (.lst (S.map fun i => .bl (decide (x ∈ lots.getD i [])))) h := fun x h =>
    lc_map nI S _ (iAny_tN (i := 4) rfl) (fun i hi c => ⟨[some d, some (nI w), some sub, some (tTs lots), some (tN S), some (nI x), some (nI i)], by simp [tgN, wipeE], by
      have := oIx_tTs (ls := lots) (h := h ++ [c]) (gs.canon.2 i hi)
      simp only [fnM, env0, sSeq, sSet, sRet, sRetN, sIf, sExpr, sNil, onR, eVar, eC, eOp, eAnd, eOr, eNot, eNeg, eIf, bAnd, bOr, bNot, bOp, bTru, asB, eChain, eCall, eFn, eFnD, eFnK, aCons, aNil, R.bind, List.length_cons, List.length_nil, List.replicate, List.map_cons, List.map_nil, List.cons_append, List.nil_append, List.getElem?_cons_zero, List.getElem?_cons_succ, List.set_cons_zero, List.set_cons_succ, finR, wipeE, tgN, truth, bYes, nI, pl_int, pl_bl, pl_non, pl_str, pl_tup, pl_lst] at this ⊢
      simp only [this]
      exact oIn_tN _ false x _⟩) fun _ => rfl
  have ev := s_every w h h1 h2
  have e4 : eLc false (iAny (eFn 1 F_every (aCons (eVar 1) aNil))) (tgN 5) (bTru (eCall fAll (aCons (eLc false (iAny (eVar 4)) (tgN 6) bYes (eOp (oIn false) (eVar 5) (eOp oIx (eVar 3) (eVar 6))) [6]) aNil))) (eVar 5) [5] [some d, some (nI w), some sub, some (tTs lots), some (tN S), none, none] h = .ok (lN (saysL w lots S)) h :=
    lc_fil nI (List.range w) (fun x => S.all fun i => decide (x ∈ lots.getD i [])) nI (iAny_e (d := tN (List.range w)) (by simp only [fnM, env0, sSeq, sSet, sRet, sRetN, sIf, sExpr, sNil, onR, eVar, eC, eOp, eAnd, eOr, eNot, eNeg, eIf, bAnd, bOr, bNot, bOp, bTru, asB, eChain, eCall, eFn, eFnD, eFnK, aCons, aNil, R.bind, List.length_cons, List.length_nil, List.replicate, List.map_cons, List.map_nil, List.cons_append, List.nil_append, List.getElem?_cons_zero, List.getElem?_cons_succ, List.set_cons_zero, List.set_cons_succ, finR, wipeE, tgN, truth, bYes, nI, pl_int, pl_bl, pl_non, pl_str, pl_tup, pl_lst] at ev ⊢; simp only [ev, if_true]) (.inl rfl)) (fun x hx c => ⟨[some d, some (nI w), some sub, some (tTs lots), some (tN S), some (nI x), none], by simp [tgN, wipeE], by
      have e5 := e3 x (h ++ [c])
      have e6 := fAll_f (fun i => decide (x ∈ lots.getD i [])) S (h ++ [c])
      simp only [bTru, eCall, aCons, aNil, R.bind, e5, e6, truth], by simp [fnM, env0, sSeq, sSet, sRet, sRetN, sIf, sExpr, sNil, onR, eVar, eC, eOp, eAnd, eOr, eNot, eNeg, eIf, bAnd, bOr, bNot, bOp, bTru, asB, eChain, eCall, eFn, eFnD, eFnK, aCons, aNil, R.bind, List.length_cons, List.length_nil, List.replicate, List.map_cons, List.map_nil, List.cons_append, List.nil_append, List.getElem?_cons_zero, List.getElem?_cons_succ, List.set_cons_zero, List.set_cons_succ, finR, wipeE, tgN, truth, bYes, nI, pl_int, pl_bl, pl_non, pl_str, pl_tup, pl_lst]⟩) fun _ => rfl
  have fl := fLen_tTs lots h
  simp only [F_says, m_says, fnM, env0, sSeq, sSet, sRet, onR, eFn, eCall, aCons, aNil, eVar, R.bind, List.map_cons, List.map_nil, List.length_cons, List.length_nil, Nat.reduceAdd, Nat.reduceSub, List.replicate, List.cons_append, List.nil_append, List.getElem?_cons_zero, List.getElem?_cons_succ, List.set_cons_zero, List.set_cons_succ, e1, if_true, Nat.reduceLT, fl, e2, e4]
  exact fin_same rfl
end Law
end
end
section
set_option Elab.async false
set_option linter.all false
set_option maxRecDepth 100000
set_option maxHeartbeats 400000
noncomputable section
namespace Law
open Nb
theorem truth_bl (b : Bool) (h : Hpp) : truth (.bl b) h = some b := rfl
theorem bitAnd_nat (a b : Nat) : PySem.Builtin.bitAnd (a : Int) (b : Int) = ((a &&& b : Nat) : Int) := by
  unfold PySem.Builtin.bitAnd
  simp
theorem sum_cast : ∀ l : List Nat, (l.map fun (n : Nat) => (n : Int)).sum = ((l.sum : Nat) : Int)
  | [] => rfl
  | a :: l => by rw [List.map_cons, List.sum_cons, List.sum_cons, sum_cast l]; simp
theorem oShl_nat {x : Nat} (h : Hpp) (hx : x ≤ 1000) : oShl (.int 1) (nI x) h = .ok (nI (2 ^ x)) h := by
  have e : ((1 : Int) * 2 ^ ((x : Int).toNat)) = ((2 ^ x : Nat) : Int) := by simp
  have c : (decide ((0 : Int) ≤ (x : Int)) && (decide ((x : Int) ≤ 1000000) && decide ((1 : Int).natAbs < 2 ^ 64))) = true := by
    have h1 : (x : Int) ≤ 1000000 := by omega
    simp [h1]
  simp only [oShl, oI, nI, c, if_true, e]
theorem s_mask_of {n : Nat} {S : List Nat} (hc : canon n S) (hn : n ≤ 100) (h : Hpp) : F_mask_of [tN S] h = .ok (nI (bm n fun x => decide (x ∈ S))) h := by
  have e := lc_map (te := eOp oShl (eC (.int 1)) (eVar 1)) (t := tgN 1) (vs := [1]) (env := [some (tN S), none]) (h := h) nI S (fun x => nI (2 ^ x)) (iAny_tN (i := 0) rfl) (fun x hx c => ⟨[some (tN S), some (nI x)], by simp [tgN, wipeE], by
    have := oShl_nat (x := x) (h ++ [c]) (by have := hc.2 x hx; omega)
    simp only [eOp, eC, eVar, List.getElem?_cons_zero, List.getElem?_cons_succ, R.bind]
    exact this⟩) fun _ => rfl
  have e2 : fSum [.lst (S.map fun x => nI (2 ^ x))] h = .ok (nI (bm n fun x => decide (x ∈ S))) h := by
    have e3 : (asL (.lst (S.map fun x => nI (2 ^ x))) h).bind intsOf = some ((S.map fun x => 2 ^ x).map fun (n : Nat) => (n : Int)) := by
      show intsOf _ = _
      rw [← intsOf_nI, List.map_map]; rfl
    simp only [fSum, e3, sum_cast, bm_sum hc]
  simp only [F_mask_of, m_mask_of, fnM, env0, sSeq, sSet, sRet, sRetN, sIf, sExpr, sNil, onR, eVar, eC, eOp, eAnd, eOr, eNot, eNeg, eIf, bAnd, bOr, bNot, bOp, bTru, asB, eChain, eCall, eFn, eFnD, eFnK, aCons, aNil, R.bind, List.length_cons, List.length_nil, List.replicate, List.map_cons, List.map_nil, List.cons_append, List.nil_append, List.getElem?_cons_zero, List.getElem?_cons_succ, List.set_cons_zero, List.set_cons_succ, wipeE, tgN, truth, bYes, nI, pl_int, pl_bl, pl_non, pl_str, pl_tup, pl_lst, e, e2]
  exact fin_same rfl
/-- told by masks, one world row after the other -/
theorem said_loop (w : Nat) (hw : w ≤ 100) (row : D) (h : Hpp) : ∀ (lots : List (List Nat)) (ms : List Nat) (x y z : Option D), (∀ l ∈ lots, canon w l) → ms.length * 2 ^ lots.length ≤ 100000 →
    ∃ x' y' z', forGo [] (tgN 3) (sSeq (sSet 4 (eFn 1 F_mask_of (aCons (eVar 3) aNil))) (sSet 2 (eOp oAdd (eVar 2) (eLc false (iAny (eVar 2)) (tgN 5) bYes (eOp oAnd (eVar 5) (eVar 4)) [5])))) (lots.map tN) [some row, some (nI w), some (lN ms), x, y, z] h =
      .nx [some row, some (nI w), some (lN (lots.foldl (fun ms l => ms ++ ms.map fun m => m &&& bm w fun x => decide (x ∈ l)) ms)), x', y', z'] h
  | [], ms, x, y, z, _, _ => ⟨x, y, z, by rw [List.map_nil, forGo, if_pos (srcOk_nil _)]; rfl⟩
  | l :: lots, ms, x, y, z, hc, hz => by
    rw [List.length_cons, Nat.pow_succ] at hz
    have hpos : 0 < 2 ^ lots.length := Nat.pos_of_ne_zero (by simp)
    have hm : ms.length * 2 ≤ ms.length * (2 ^ lots.length * 2) := Nat.mul_le_mul_left _ (by omega)
    obtain ⟨x', y', z', ih⟩ := said_loop w hw row h lots (ms ++ ms.map fun m => m &&& bm w fun x => decide (x ∈ l)) (some (tN l)) (some (nI (bm w fun x => decide (x ∈ l)))) z (fun l' hl => hc l' (List.mem_cons_of_mem _ hl)) (by
      rw [List.length_append, List.length_map, ← Nat.two_mul, Nat.mul_comm 2, Nat.mul_assoc, Nat.mul_comm 2]; exact hz)
    refine ⟨x', y', z', ?_⟩
    have e1 := s_mask_of (hc l List.mem_cons_self) hw h
    have e2 := lc_map (te := eOp oAnd (eVar 5) (eVar 4)) (t := tgN 5) (vs := [5]) (env := [some row, some (nI w), some (lN ms), some (tN l), some (nI (bm w fun x => decide (x ∈ l))), z]) (h := h) nI ms (fun m => nI (m &&& bm w fun x => decide (x ∈ l))) (iAny_at (i := 2) rfl (.inr rfl)) (fun m _ c => ⟨[some row, some (nI w), some (lN ms), some (tN l), some (nI (bm w fun x => decide (x ∈ l))), some (nI m)], by simp [tgN, wipeE], by
      simp only [eOp, eVar, List.getElem?_cons_zero, List.getElem?_cons_succ, R.bind, oAnd, oI0, nI, bitAnd_nat]⟩) fun _ => rfl
    have e3 : oAdd (lN ms) (.lst (ms.map fun m => nI (m &&& bm w fun x => decide (x ∈ l)))) h = .ok (lN (ms ++ ms.map fun m => m &&& bm w fun x => decide (x ∈ l))) h := by
      have hle : (ms.map nI).length + (ms.map fun m => nI (m &&& bm w fun x => decide (x ∈ l))).length ≤ 16777216 := by rw [List.length_map, List.length_map]; omega
      simp only [oAdd, lN, asN, asL]
      rw [if_pos hle, List.map_append, List.map_map]; rfl
    rw [List.map_cons, forGo, if_pos (srcOk_nil _)]
    simp only [tgN, List.length_cons, List.length_nil, Nat.reduceAdd, Nat.reduceLT, if_true, List.set_cons_succ, List.set_cons_zero]
    simp only [sSeq, sSet, onR, eFn, aCons, aNil, eVar, List.getElem?_cons_zero, List.getElem?_cons_succ, R.bind, List.length_cons, List.length_nil, Nat.reduceAdd, if_true, e1, Nat.reduceLT, List.set_cons_succ, List.set_cons_zero]
    simp only [eOp, eVar, List.getElem?_cons_zero, List.getElem?_cons_succ, R.bind, e2, e3, if_true, List.set_cons_succ, List.set_cons_zero, List.length_cons, List.length_nil, Nat.reduceAdd, Nat.reduceLT, ih, List.foldl_cons]
end Law
end
end
section
set_option Elab.async false
set_option linter.all false
set_option maxRecDepth 100000
set_option maxHeartbeats 400000
noncomputable section
namespace Law
open Nb
theorem oSub_nat {a b : Nat} (h : Hpp) (hb : b ≤ a) : oSub (nI a) (nI b) h = .ok (nI (a - b)) h := by
  have e : ((a : Int) - (b : Int)) = ((a - b : Nat) : Int) := by omega
  simp only [oSub, oI0, nI, e]
theorem oSub_1 {a : Nat} (h : Hpp) (hb : 1 ≤ a) : oSub (nI a) (.int 1) h = .ok (nI (a - 1)) h := oSub_nat (b := 1) h hb
theorem oAdd_nat (a b : Nat) (h : Hpp) : oAdd (nI a) (nI b) h = .ok (nI (a + b)) h := by
  have e : ((a : Int) + (b : Int)) = ((a + b : Nat) : Int) := by omega
  simp only [oAdd, nI, e]
theorem full_mask (w : Nat) (hw : w ≤ 100) (h : Hpp) : (oShl (.int 1) (nI w) h).bind (fun x h => oSub x (.int 1) h) = .ok (nI (bm w fun _ => true)) h := by
  rw [oShl_nat h (by omega)]
  simp only [R.bind]
  rw [oSub_1 h (Nat.pos_of_ne_zero (by simp)), bm_full]
theorem s_said_masks {w : Nat} (hw : w ≤ 100) {lots : List (List Nat)} (hc : ∀ l ∈ lots, canon w l) (hz : lots.length ≤ 8) (h : Hpp) : F_said_masks [tTs lots, nI w] h = .ok (lN (saidM w lots)) h := by
  have e0 := full_mask w hw h
  obtain ⟨x, y, z, e1⟩ := said_loop w hw (tTs lots) h lots [bm w fun _ => true] none none none hc (by
    have : 2 ^ lots.length ≤ 2 ^ 8 := Nat.pow_le_pow_right (by decide) hz
    simp only [List.length_singleton]; omega)
  have it := iAny_tTs (i := 0) (env := [some (tTs lots), some (nI w), some (lN [bm w fun _ => true]), none, none, none]) (l := lots) (h := h) rfl
  have e2 : eLst false (aCons (eOp oSub (eOp oShl (eC (.int 1)) (eVar 1)) (eC (.int 1))) aNil) [some (tTs lots), some (nI w), none, none, none, none] h = .ok (lN [bm w fun _ => true]) h := by
    simp only [eLst, eOp, eC, eVar, aCons, aNil, List.getElem?_cons_zero, List.getElem?_cons_succ, R.bind] at e0 ⊢
    rw [oShl_nat h (by omega)] at e0 ⊢
    simp only at e0 ⊢
    rw [e0]; rfl
  simp only [F_said_masks, m_said_masks, fnM, env0, sSeq, sSet, sFor, onR, List.map_cons, List.map_nil, List.length_cons, List.length_nil, Nat.reduceAdd, Nat.reduceSub, List.replicate, List.cons_append, List.nil_append, e2, Nat.reduceLT, if_true, List.set_cons_zero, List.set_cons_succ, it, e1, sRet, eVar, List.getElem?_cons_zero, List.getElem?_cons_succ]
  exact fin_same rfl
/-- which sublists, told by masks, carry L -/
def carL (w : Nat) (lots : List (List Nat)) (L : List Nat) : List Bool := (saidM w lots).map fun m => decide ((m &&& bm w fun x => !decide (x ∈ L)) = 0)
def carD (w : Nat) (lots : List (List Nat)) (L : List Nat) : D := .lst ((carL w lots L).map D.bl)
/-- s carries L -/
def cB (w : Nat) (lots : List (List Nat)) (L : List Nat) (s : Nat → Bool) : Bool := (List.range w).all fun x => !inter lots s x || decide (x ∈ L)
theorem carL_at (w : Nat) (lots : List (List Nat)) (L : List Nat) (s : Nat → Bool) : (carL w lots L)[bm lots.length s]? = some (cB w lots L s) := by
  unfold carL
  rw [List.getElem?_map, (saidM_at w lots).2 s]
  simp only [Option.map_some]
  congr 1
  rw [bm_and]
  apply Bool.eq_iff_iff.mpr
  rw [decide_eq_true_eq, bm_zero]
  unfold cB
  rw [List.all_eq_true]
  simp only [List.mem_range]
  constructor
  · intro h x hx
    have := h x hx
    revert this
    cases inter lots s x <;> cases decide (x ∈ L) <;> simp
  · intro h x hx
    have := h x hx
    revert this
    cases inter lots s x <;> cases decide (x ∈ L) <;> simp
theorem oIx_car {w : Nat} {lots : List (List Nat)} {L : List Nat} (s : Nat → Bool) (h : Hpp) : oIx (carD w lots L) (nI (bm lots.length s)) h = .ok (.bl (cB w lots L s)) h := by
  refine oIx_row (l := (carL w lots L).map D.bl) rfl ?_
  rw [List.getElem?_map, carL_at]; rfl
theorem s_carrying {w : Nat} (hw : w ≤ 100) {lots : List (List Nat)} (hc : ∀ l ∈ lots, canon w l) (hz : lots.length ≤ 8) {L : List Nat} (hL : canon w L) (h : Hpp) : F_carrying [tTs lots, nI w, tN L] h = .ok (carD w lots L) h := by
  have e0 := full_mask w hw h
  rw [oShl_nat h (by omega)] at e0
  have e1 := s_mask_of hL hw h
  have e2 := s_said_masks hw hc hz h
  have e3 : oSub (nI (bm w fun _ => true)) (nI (bm w fun x => decide (x ∈ L))) h = .ok (nI (bm w fun x => !decide (x ∈ L))) h := by
    have := bm_compl w fun x => decide (x ∈ L)
    rw [oSub_nat h (by rw [bm_full]; omega), bm_full]
    congr 2
    omega
  have e4 : (eLc false (iAny (eFn 2 F_said_masks (aCons (eVar 0) (aCons (eVar 1) aNil)))) (tgN 4) bYes (eOp oEq (eOp oAnd (eVar 4) (eVar 3)) (eC (.int 0))) [4]) [some (tTs lots), some (nI w), some (tN L), some (nI (bm w fun x => !decide (x ∈ L))), none] h = .ok (carD w lots L) h := by
    have := lc_map (te := (eOp oEq (eOp oAnd (eVar 4) (eVar 3)) (eC (.int 0)))) (t := tgN 4) (vs := [4]) (env := [some (tTs lots), some (nI w), some (tN L), some (nI (bm w fun x => !decide (x ∈ L))), none]) (h := h) nI (saidM w lots) (fun m => .bl (decide ((m &&& bm w fun x => !decide (x ∈ L)) = 0))) (iAny_e (m := (eFn 2 F_said_masks (aCons (eVar 0) (aCons (eVar 1) aNil)))) (d := lN (saidM w lots)) (by
      simp only [eFn, eVar, aCons, aNil, List.getElem?_cons_zero, List.getElem?_cons_succ, R.bind, List.length_cons, List.length_nil, Nat.reduceAdd, if_true]; exact e2) (.inr rfl)) (fun m _ c => ⟨[some (tTs lots), some (nI w), some (tN L), some (nI (bm w fun x => !decide (x ∈ L))), some (nI m)], by simp [tgN, wipeE], by
      simp only [eOp, eVar, eC, List.getElem?_cons_zero, List.getElem?_cons_succ, R.bind, oAnd, oI0, nI, bitAnd_nat, oEq_int]
      congr 2
      exact decide_eq_decide.mpr (by omega)⟩) fun _ => rfl
    rw [this]
    unfold carD carL
    rw [List.map_map]; rfl
  simp only [F_carrying, m_carrying, fnM, env0, sSeq, sSet, onR, eOp, eC, eFn, aCons, aNil, R.bind, List.map_cons, List.map_nil, List.length_cons, List.length_nil, Nat.reduceAdd, Nat.reduceSub, List.replicate, List.cons_append, List.nil_append, Nat.reduceLT, if_true, List.set_cons_zero, List.set_cons_succ, sRet, eVar, List.getElem?_cons_zero, List.getElem?_cons_succ, oShl_nat h (show w ≤ 1000 by omega)]
  simp only [R.bind] at e0
  simp only [e0, e1, e3, if_true]
  simp only [e4, if_true]
  exact fin_same rfl
theorem s_but_not_all {w : Nat} (h1 : 1 ≤ w) (h2 : w ≤ 12) {d : D} {L : List Nat} (g : GR w d L) (hl : L.length < w) (h : Hpp) : F_but_not_all [d, nI w] h = .ok (tN L) h := by
  have e1 := s_lot h1 h2 g h
  have e2 := fLen_tN L h
  have e3 : ¬ (((L.length : Nat) : Int) = (w : Int)) := by omega
  simp only [F_but_not_all, m_but_not_all, fnM, env0, sSeq, sSet, sRet, sRetN, sIf, sExpr, sNil, onR, eVar, eC, eOp, eAnd, eOr, eNot, eNeg, eIf, bAnd, bOr, bNot, bOp, bTru, asB, eChain, eCall, eFn, eFnD, eFnK, aCons, aNil, R.bind, List.length_cons, List.length_nil, List.replicate, List.map_cons, List.map_nil, List.cons_append, List.nil_append, List.getElem?_cons_zero, List.getElem?_cons_succ, List.set_cons_zero, List.set_cons_succ, wipeE, tgN, truth, bYes, pl_int, pl_bl, pl_non, pl_str, pl_tup, pl_lst, Nat.reduceAdd, Nat.reduceSub, Nat.reduceLT, if_true, Bool.true_and, Bool.and_true, Bool.not_true, Bool.not_false, Bool.false_eq_true, if_false, Nat.zero_add, truth_bl, fTuple_lst, fTuple_tup, e1, e2, oEq_int, e3, decide_false]
  exact fin_same rfl
theorem s_but_all {w : Nat} (h1 : 1 ≤ w) (h2 : w ≤ 12) {d : D} {L : List Nat} (g : GR w d L) (hl : L.length = w) (h : Hpp) : F_but_not_all [d, nI w] h = .exc 2 [("place", .int (-1))] h := by
  have e1 := s_lot h1 h2 g h
  have e2 := fLen_tN L h
  have e3 : (((L.length : Nat) : Int) = (w : Int)) := by omega
  simp [F_but_not_all, m_but_not_all, fnM, env0, sSeq, sSet, sRet, sRetN, sIf, sExpr, sNil, onR, eVar, eC, eOp, eAnd, eOr, eNot, eNeg, eIf, bAnd, bOr, bNot, bOp, bTru, asB, eChain, eCall, eFn, eFnD, eFnK, aCons, aNil, R.bind, List.length_cons, List.length_nil, List.replicate, List.map_cons, List.map_nil, List.cons_append, List.nil_append, List.getElem?_cons_zero, List.getElem?_cons_succ, List.set_cons_zero, List.set_cons_succ, wipeE, tgN, truth, bYes, pl_int, pl_bl, pl_non, pl_str, pl_tup, pl_lst, Nat.reduceAdd, Nat.reduceSub, Nat.reduceLT, if_true, Bool.true_and, Bool.and_true, Bool.not_true, Bool.not_false, Bool.false_eq_true, if_false, Nat.zero_add, truth_bl, fTuple_lst, fTuple_tup, e1, e2, oEq_int, e3, sRaise, D.isRef]
theorem s_carries {w : Nat} (h1 : 1 ≤ w) (h2 : w ≤ 12) {d sub lotd : D} {lots : List (List Nat)} {S L : List Nat} (g : GB w d lots) (gs : GR lots.length sub S) (gl : GR w lotd L) (h : Hpp) : F_carries [d, nI w, sub, lotd] h = .ok (.bl ((saysL w lots S).all fun x => decide (x ∈ L))) h := by
  have e1 := s_says h1 h2 g gs h
  have e2 := s_lot h1 h2 gl h
  have e3 := s_inside (saysL w lots S) L h
  simp only [F_carries, m_carries, fnM, env0, sSeq, sSet, sRet, sRetN, sIf, sExpr, sNil, onR, eVar, eC, eOp, eAnd, eOr, eNot, eNeg, eIf, bAnd, bOr, bNot, bOp, bTru, asB, eChain, eCall, eFn, eFnD, eFnK, aCons, aNil, R.bind, List.length_cons, List.length_nil, List.replicate, List.map_cons, List.map_nil, List.cons_append, List.nil_append, List.getElem?_cons_zero, List.getElem?_cons_succ, List.set_cons_zero, List.set_cons_succ, wipeE, tgN, truth, bYes, pl_int, pl_bl, pl_non, pl_str, pl_tup, pl_lst, Nat.reduceAdd, Nat.reduceSub, Nat.reduceLT, if_true, Bool.true_and, Bool.and_true, Bool.not_true, Bool.not_false, Bool.false_eq_true, if_false, Nat.zero_add, truth_bl, fTuple_lst, fTuple_tup, e1, e2, e3]
  exact fin_same rfl
end Law
end
end
section
set_option Elab.async false
set_option linter.all false
set_option maxRecDepth 100000
set_option maxHeartbeats 400000
noncomputable section
namespace Law
open Nb
theorem oCmp_int (g : Int → Int → Bool) (i j : Int) (h : Hpp) : oCmp g (.int i) (.int j) h = .ok (.bl (g i j)) h := rfl
theorem dbl_length : ∀ n : Nat, (dbl n).length = 2 ^ n
  | 0 => rfl
  | n + 1 => by rw [dbl, List.length_append, List.length_map, dbl_length n, Nat.pow_succ]; omega
theorem before_nodup {l : List (List Nat)} (h : l.Pairwise before) : l.Nodup := h.imp fun {a b} z e => by subst e; exact before_irr a z
theorem canon_count {n : Nat} {l : List (List Nat)} (hn : l.Nodup) (hc : ∀ S ∈ l, canon n S) : l.length ≤ 2 ^ n := by
  rw [← dbl_length]
  exact hn.length_le_of_subset fun S hS => mem_dbl.mpr (hc S hS)
theorem subsTo_len (n k : Nat) : (subsTo n k).length ≤ 2 ^ n := canon_count (before_nodup (subsTo_sorted n k)) fun S hS => (mem_subsTo.mp hS).1
theorem layer_nodup (n k : Nat) : (layer n k).Nodup := (layer_sorted n k).imp fun {a b} z e => by subst e; rw [lexN_irr] at z; cases z
theorem layer_len (n k : Nat) : (layer n k).length ≤ 2 ^ n := canon_count (layer_nodup n k) fun S hS => (mem_layer.mp hS).1
theorem pow_8 {n : Nat} (hn : n ≤ 8) : 2 ^ n ≤ 256 := Nat.pow_le_pow_right (n := 2) (by decide) hn
theorem layer_nil (n : Nat) : layer n (n + 1) = [] := by
  apply List.eq_nil_iff_forall_not_mem.mpr
  intro S hS
  obtain ⟨h1, h2⟩ := mem_layer.mp hS
  have := canon_length h1
  omega
theorem layer_ne {n k : Nat} (hk : k ≤ n) : ∃ S L, layer n k = S :: L ∧ S.length = k := by
  have hm : List.range k ∈ layer n k := mem_layer.mpr ⟨⟨List.pairwise_lt_range, fun x hx => Nat.lt_of_lt_of_le (List.mem_range.mp hx) hk⟩, by simp⟩
  cases e : layer n k with
  | nil => rw [e] at hm; cases hm
  | cons S L => exact ⟨S, L, rfl, (mem_layer.mp (by rw [e]; exact List.mem_cons_self)).2⟩
theorem oIx_last {S : List Nat} {x : Nat} (h : Hpp) : oIx (tN (S ++ [x])) (.int (-1)) h = .ok (nI x) h := by
  have e : L2.ixN ((S ++ [x]).map nI).length (-1) = some S.length := by
    unfold L2.ixN
    rw [List.length_map, List.length_append, List.length_singleton, if_neg (by omega), if_pos (by omega)]
    congr 1
    omega
  have e2 : L2.atI ((S ++ [x]).map nI) (-1) = some (nI x) := by
    unfold L2.atI
    rw [e]
    simp
  simp only [oIx, tN, asS, e2]
theorem truth_tN (l : List Nat) (h : Hpp) : truth (tN l) h = some (!l.isEmpty) := by cases l <;> rfl
theorem truth_lT (l : List (List Nat)) (h : Hpp) : truth (lT l) h = some (!l.isEmpty) := by cases l <;> rfl
theorem start_ev {S : List Nat} {env : Nb.Env} {i : Nat} (he : env[i]? = some (some (tN S))) (h : Hpp) : eIf (bTru (eVar i)) (eOp oAdd (eOp oIx (eVar i) (eNeg (eC (.int 1)))) (eC (.int 1))) (eC (.int 0)) env h = .ok (nI (startOf S)) h := by
  rcases List.eq_nil_or_concat S with e | ⟨T, x, e⟩
  · subst e
    simp [eIf, bTru, eVar, he, R.bind, truth_tN, eC, startOf]
  · rw [List.concat_eq_append] at e
    subst e
    have e1 := oIx_last (S := T) (x := x) h
    have e2 := oAdd_nat x 1 h
    have ht : truth (tN (T ++ [x])) h = some true := by rw [truth_tN]; cases T <;> rfl
    have e3 : ((-1 : Int)) = -1 := rfl
    simp only [eIf, bTru, eVar, he, R.bind, ht, eC, startOf_app, if_true, eOp, eNeg, oIx_last]
    exact e2
theorem okRng_n {a b : Nat} (hb : b ≤ 1000) (ha : a ≤ 1000) : okRng (a : Int) (b : Int) = true := okRng_nat hb ha
theorem iRg2_e {m : M (List D)} {env : Nb.Env} {a b : Nat} {h : Hpp} (ha : a ≤ 1000) (hb : b ≤ 1000) (he : m env h = .ok [nI a, nI b] h) : iRg2 m env h = .ok ⟨(List.range' a (b - a)).map nI, []⟩ h := by
  simp only [iRg2, he, R.bind, nI, okRng_nat hb ha, if_true, rngD_nat]
theorem start_lt {n : Nat} {S : List Nat} (h : canon n S) : startOf S ≤ n := by
  rcases List.eq_nil_or_concat S with e | ⟨T, x, e⟩
  · subst e; exact Nat.zero_le _
  · rw [List.concat_eq_append] at e
    subst e
    rw [startOf_app]
    exact h.2 x (by simp)
theorem nxt_ev {n k : Nat} (hn : n ≤ 8) (d0 d1 d2 : D) (h : Hpp) : (eLc2 false (iAny (eVar 3)) (tgN 4) bYes (iRg2 (aCons (eIf (bTru (eVar 4)) (eOp oAdd (eOp oIx (eVar 4) (eNeg (eC (.int 1)))) (eC (.int 1))) (eC (.int 0))) (aCons (eVar 0) aNil))) (tgN 5) bYes (eOp oAdd (eVar 4) (eTup (aCons (eVar 5) aNil))) [4, 5] [5]) [some (nI n), some d1, some d2, some (lT (layer n k)), none, none] h = .ok (lT (layer n (k + 1))) h := by
  have p8 := pow_8 hn
  have := lc2_map (t := tgN 4) (tt := bYes) (t1 := tgN 5) (tt1 := bYes) (mi1 := (iRg2 (aCons (eIf (bTru (eVar 4)) (eOp oAdd (eOp oIx (eVar 4) (eNeg (eC (.int 1)))) (eC (.int 1))) (eC (.int 0))) (aCons (eVar 0) aNil)))) (te := (eOp oAdd (eVar 4) (eTup (aCons (eVar 5) aNil)))) (vs := [4, 5]) (vs1 := [5]) (env := [some (nI n), some d1, some d2, some (lT (layer n k)), none, none]) (h := h) tN nI (layer n k) (fun S => List.range' (startOf S) (n - startOf S)) (fun S x => tN (S ++ [x])) (iAny_lT (i := 3) rfl) (fun S hS => by
    have hc := (mem_layer.mp hS).1
    have hs := start_lt hc
    refine ⟨[some (nI n), some d1, some d2, some (lT (layer n k)), some (tN S), none], by simp [tgN, wipeE], fun c => ⟨rfl, ?_, fun y hy => ?_⟩⟩
    · refine iRg2_e (by omega) (by omega) ?_
      have e := start_ev (S := S) (i := 4) (env := [some (nI n), some d1, some d2, some (lT (layer n k)), some (tN S), none]) rfl (h ++ [c])
      simp only [aCons, aNil, R.bind, e, eVar, List.getElem?_cons_zero]
    · have hle : (S.map nI).length + [nI y].length ≤ 16777216 := by
        have := canon_length hc
        simp only [List.length_map, List.length_singleton]; omega
      have e : oAdd (tN S) (.tup [nI y]) (h ++ [c]) = .ok (tN (S ++ [y])) (h ++ [c]) := by
        simp only [oAdd, tN]
        rw [if_pos hle, List.map_append]; rfl
      have e2 : eTup (aCons (eVar 5) aNil) [some (nI n), some d1, some d2, some (lT (layer n k)), some (tN S), some (nI y)] (h ++ [c]) = .ok (.tup [nI y]) (h ++ [c]) := rfl
      have e3 : tgN 5 (nI y) (wipeE [some (nI n), some d1, some d2, some (lT (layer n k)), some (tN S), none] [5]) = some [some (nI n), some d1, some d2, some (lT (layer n k)), some (tN S), some (nI y)] := by simp [tgN, wipeE]
      unfold lcTurn
      rw [e3]
      simp only [bYes, R.bind, if_true, eOp]
      simp only [eVar, List.getElem?_cons_zero, List.getElem?_cons_succ, R.bind, e2, e]) (fun _ _ => rfl) (by
    have hl := layer_len n (k + 1)
    have e : (layer n (k + 1)).length = ((layer n k).flatMap fun S => List.range' (startOf S) (n - startOf S)).length := by
      simp only [layer, nxt, List.length_flatMap, extn, List.length_map]
    rw [← e]; omega)
  rw [this]
  simp only [layer, nxt, lT, extn, List.map_flatMap, List.map_map]
  rfl
theorem lot_loop {n : Nat} (hn : n ≤ 8) (h : Hpp) : ∀ (f k : Nat), n + 2 ≤ k + f → k ≤ n + 1 →
    whGo (bAnd (bTru (eVar 3)) (bOp (oCmp (fun i j => decide (i ≤ j))) (eCall fLen (aCons (eOp oIx (eVar 3) (eC (.int 0))) aNil)) (eVar 1))) (sSeq (sExpr (eMt (eVar 2) (aCons (eCall (fList false) (aCons (eVar 3) aNil)) aNil) fExtend))
  (sSet 3 (eLc2 false (iAny (eVar 3)) (tgN 4) bYes (iRg2 (aCons (eIf (bTru (eVar 4)) (eOp oAdd (eOp oIx (eVar 4) (eNeg (eC (.int 1)))) (eC (.int 1))) (eC (.int 0))) (aCons (eVar 0) aNil))) (tgN 5) bYes (eOp oAdd (eVar 4) (eTup (aCons (eVar 5) aNil))) [4, 5] [5]))) f [some (nI n), some (nI n), some (.ref h.length), some (lT (layer n k)), none, none] (h ++ [.lst ((subsTo n k).map tN)]) = .nx [some (nI n), some (nI n), some (.ref h.length), some (lT (layer n (n + 1))), none, none] (h ++ [.lst ((subs n).map tN)])
  | 0, k, h1, h2 => by omega
  | f + 1, k, h1, h2 => by
    rw [whGo]
    by_cases hk : k = n + 1
    · subst hk
      have e : truth (lT (layer n (n + 1))) (h ++ [.lst ((subsTo n (n + 1)).map tN)]) = some false := by rw [truth_lT, layer_nil]; rfl
      simp only [onR, bAnd, bTru, eVar, List.getElem?_cons_zero, List.getElem?_cons_succ, R.bind, e, Bool.false_eq_true, if_false]
      rfl
    · have hk2 : k ≤ n := by omega
      obtain ⟨S, L, eL, hS⟩ := layer_ne hk2
      have p8 := pow_8 hn
      have e : truth (lT (layer n k)) (h ++ [.lst ((subsTo n k).map tN)]) = some true := by rw [truth_lT, eL]; rfl
      have e1 : oIx (lT (layer n k)) (.int 0) (h ++ [.lst ((subsTo n k).map tN)]) = .ok (tN S) (h ++ [.lst ((subsTo n k).map tN)]) := by
        have := oIx_lT (ls := layer n k) (h := h ++ [.lst ((subsTo n k).map tN)]) (i := 0) (by rw [eL]; simp)
        rw [eL] at this ⊢
        exact this
      have e2 := fLen_tN S (h ++ [.lst ((subsTo n k).map tN)])
      have e3 : decide ((S.length : Int) ≤ (n : Int)) = true := by rw [decide_eq_true_eq]; omega
      have e4 := lot_loop hn h f (k + 1) (by omega) (by omega)
      have e5 := nxt_ev (k := k) hn (nI n) (nI n) (.ref h.length) (h ++ [.lst ((subsTo n (k + 1)).map tN)])
      have e6 : fExtend (.ref h.length) [lT (layer n k)] (h ++ [.lst ((subsTo n k).map tN)]) = .ok .non (h ++ [.lst ((subsTo n (k + 1)).map tN)]) := by
        have hle : ((subsTo n k).map tN).length + ((layer n k).map tN).length ≤ 16777216 := by
          have h1 := subsTo_len n k
          have h2 := layer_len n k
          rw [List.length_map, List.length_map]; omega
        simp only [fExtend, cellOf_c, asN, asL, lT]
        rw [if_pos hle, c_set, subsTo, List.map_append]
      have e7 : fList false [lT (layer n k)] (h ++ [.lst ((subsTo n k).map tN)]) = .ok (lT (layer n k)) (h ++ [.lst ((subsTo n k).map tN)]) := rfl
      simp only [onR, bAnd, bTru, bOp, eOp, eCall, eC, aCons, aNil, eVar, List.getElem?_cons_zero, List.getElem?_cons_succ, R.bind, e, e1, e2, nI, oCmp_int, e3, if_true]
      simp only [nI] at e4 e5
      simp only [sSeq, sExpr, sSet, onR, eMt, eCall, aCons, aNil, eVar, List.getElem?_cons_zero, List.getElem?_cons_succ, R.bind, asL_c, e6, e7, e5, List.length_cons, List.length_nil, Nat.reduceAdd, Nat.reduceLT, if_true, List.set_cons_succ, List.set_cons_zero, e4]
theorem s_lot_list {n : Nat} (hn : n ≤ 8) (h : Hpp) : F_lot_list [nI n, nI n] h = .ok (lT (subs n)) h := by
  have e := lot_loop hn h 64 0 (by omega) (by omega)
  have e1 : eLst true aNil [some (nI n), some (nI n), none, none, none, none] h = .ok (.ref h.length) (h ++ [.lst []]) := rfl
  have e2 : eLst false (aCons (eTup aNil) aNil) [some (nI n), some (nI n), some (.ref h.length), none, none, none] (h ++ [.lst []]) = .ok (lT [[]]) (h ++ [.lst []]) := rfl
  have e3 : (subsTo n 0).map tN = [] := rfl
  have e4 : layer n 0 = [[]] := rfl
  rw [e3, e4] at e
  simp only [F_lot_list, m_lot_list, fnM, env0, sSeq, sSet, onR, List.map_cons, List.map_nil, List.length_cons, List.length_nil, Nat.reduceAdd, Nat.reduceSub, List.replicate, List.cons_append, List.nil_append, e1, Nat.reduceLT, if_true, List.set_cons_zero, List.set_cons_succ, e2, e, sRet, eVar, List.getElem?_cons_zero, List.getElem?_cons_succ]
  simp [finR, lT]
theorem s_check_many {n : Nat} (hn : n ≤ 8) (h : Hpp) : F_check_places_many [nI n] h = .ok .non h := by
  have e0 : decide ((0 : Int) ≤ (n : Int)) = true := by rw [decide_eq_true_eq]; omega
  have e1 : decide ((n : Int) ≤ 8) = true := by rw [decide_eq_true_eq]; omega
  simp [F_check_places_many, m_check_places_many, s_whole_number, pl_int, D.isI, oCmp, oI0, e0, e1, hn, fnM, env0, sSeq, sSet, sRet, sRetN, sIf, sExpr, sNil, onR, eVar, eC, eOp, eAnd, eOr, eNot, eNeg, eIf, bAnd, bOr, bNot, bOp, bTru, asB, eChain, eCall, eFn, eFnD, eFnK, aCons, aNil, R.bind, List.length_cons, List.length_nil, List.replicate, List.map_cons, List.map_nil, List.cons_append, List.nil_append, List.getElem?_cons_zero, List.getElem?_cons_succ, List.set_cons_zero, List.set_cons_succ, finR, wipeE, tgN, truth, bYes, nI, pl_int, pl_bl, pl_non, pl_str, pl_tup, pl_lst]
theorem s_check_nine (h : Hpp) : F_check_places_many [.int 9] h = .exc 1 [("name", .str "many")] h := by
  simp [F_check_places_many, m_check_places_many, s_whole_number, pl_int, D.isI, oCmp, oI0, sRaise, D.isRef, fnM, env0, sSeq, sSet, sRet, sRetN, sIf, sExpr, sNil, onR, eVar, eC, eOp, eAnd, eOr, eNot, eNeg, eIf, bAnd, bOr, bNot, bOp, bTru, asB, eChain, eCall, eFn, eFnD, eFnK, aCons, aNil, R.bind, List.length_cons, List.length_nil, List.replicate, List.map_cons, List.map_nil, List.cons_append, List.nil_append, List.getElem?_cons_zero, List.getElem?_cons_succ, List.set_cons_zero, List.set_cons_succ, finR, wipeE, tgN, truth, bYes, nI, pl_int, pl_bl, pl_non, pl_str, pl_tup, pl_lst]
theorem s_all_sublists {n : Nat} (hn : n ≤ 8) (h : Hpp) : F_all_sublists [nI n] h = .ok (tTs (subs n)) h := by
  have e1 := s_check_many hn h
  have e2 := s_lot_list hn h
  have e3 : fTuple [lT (subs n)] h = .ok (tTs (subs n)) h := rfl
  simp only [F_all_sublists, m_all_sublists, fnM, env0, sSeq, sSet, sRet, sRetN, sIf, sExpr, sNil, onR, eVar, eC, eOp, eAnd, eOr, eNot, eNeg, eIf, bAnd, bOr, bNot, bOp, bTru, asB, eChain, eCall, eFn, eFnD, eFnK, aCons, aNil, R.bind, List.length_cons, List.length_nil, List.replicate, List.map_cons, List.map_nil, List.cons_append, List.nil_append, List.getElem?_cons_zero, List.getElem?_cons_succ, List.set_cons_zero, List.set_cons_succ, wipeE, tgN, truth, bYes, pl_int, pl_bl, pl_non, pl_str, pl_tup, pl_lst, Nat.reduceAdd, Nat.reduceSub, Nat.reduceLT, if_true, Bool.true_and, Bool.and_true, Bool.not_true, Bool.not_false, Bool.false_eq_true, if_false, Nat.zero_add, truth_bl, fTuple_lst, fTuple_tup, e1, e2, e3]
  exact fin_same rfl
theorem s_all_nine (h : Hpp) : F_all_sublists [.int 9] h = .exc 1 [("name", .str "many")] h := by
  have e1 := s_check_nine h
  simp [F_all_sublists, m_all_sublists, fnM, env0, sSeq, sSet, sRet, sRetN, sIf, sExpr, sNil, onR, eVar, eC, eOp, eAnd, eOr, eNot, eNeg, eIf, bAnd, bOr, bNot, bOp, bTru, asB, eChain, eCall, eFn, eFnD, eFnK, aCons, aNil, R.bind, List.length_cons, List.length_nil, List.replicate, List.map_cons, List.map_nil, List.cons_append, List.nil_append, List.getElem?_cons_zero, List.getElem?_cons_succ, List.set_cons_zero, List.set_cons_succ, wipeE, tgN, truth, bYes, pl_int, pl_bl, pl_non, pl_str, pl_tup, pl_lst, Nat.reduceAdd, Nat.reduceSub, Nat.reduceLT, if_true, Bool.true_and, Bool.and_true, Bool.not_true, Bool.not_false, Bool.false_eq_true, if_false, Nat.zero_add, truth_bl, fTuple_lst, fTuple_tup, e1]
end Law
end
end
section
set_option Elab.async false
set_option linter.all false
set_option maxRecDepth 100000
set_option maxHeartbeats 400000
noncomputable section
namespace Law
open Nb
theorem forGo_st {α σ : Type} {t : Tg} {body : SM} (inj : α → D) (I : List α → σ → Nb.Env → Hpp → Prop) (f : σ → α → σ)
    (hs : ∀ x xs s env hh, I (x :: xs) s env hh → ∃ e1 e2 h2, t (inj x) env = some e1 ∧ body e1 hh = .nx e2 h2 ∧ I xs (f s x) e2 h2) :
    ∀ xs s env hh, I xs s env hh → ∃ e2 h2, forGo [] t body (xs.map inj) env hh = .nx e2 h2 ∧ I [] (xs.foldl f s) e2 h2
  | [], s, env, hh, i => ⟨env, hh, by rw [List.map_nil, forGo, if_pos (srcOk_nil _)], i⟩
  | x :: xs, s, env, hh, i => by
    obtain ⟨e1, e2, h2, q1, q2, q3⟩ := hs x xs s env hh i
    obtain ⟨e3, h3, q4, q5⟩ := forGo_st inj I f hs xs (f s x) e2 h2 q3
    refine ⟨e3, h3, ?_, q5⟩
    rw [List.map_cons, forGo, if_pos (srcOk_nil _), q1]
    simp only [q2, q4]
theorem foldl_fil {α : Type} (p : α → Bool) : ∀ (xs acc : List α), xs.foldl (fun acc x => if p x = true then acc ++ [x] else acc) acc = acc ++ xs.filter p
  | [], acc => by simp
  | x :: xs, acc => by
    rw [List.foldl_cons, foldl_fil p xs, List.filter_cons]
    cases p x <;> simp
/-- rows put into the youngest cell, one at most each turn -/
theorem forGo_rows {t : Tg} {body : SM} (h : Hpp) (E : Nb.Env → Prop) (f : List (List Nat) → List Nat → List (List Nat)) (C : List Nat → Prop) (hf : ∀ acc x, (f acc x).length ≤ acc.length + 1)
    (hs : ∀ x acc env, C x → E env → acc.length < 100000 → ∃ e1 e2, t (tN x) env = some e1 ∧ body e1 (h ++ [.lst (acc.map tN)]) = .nx e2 (h ++ [.lst ((f acc x).map tN)]) ∧ E e2) {xs : List (List Nat)} (hx : ∀ x ∈ xs, C x) {env : Nb.Env} (he : E env) (hz : xs.length < 100000) :
    ∃ e2, E e2 ∧ forGo [] t body (xs.map tN) env (h ++ [.lst []]) = .nx e2 (h ++ [.lst ((xs.foldl f []).map tN)]) := by
  obtain ⟨e2, h2, q1, q2, q3, _⟩ := forGo_st (t := t) (body := body) tN (fun xs acc env hh => E env ∧ hh = h ++ [.lst (acc.map tN)] ∧ acc.length + xs.length < 100000 ∧ ∀ x ∈ xs, C x) f (fun x xs acc env hh ⟨i1, i2, i3, i4⟩ => by
    subst i2
    obtain ⟨e1, e2, q1, q2, q3⟩ := hs x acc env (i4 x List.mem_cons_self) i1 (by simp at i3; omega)
    exact ⟨e1, e2, _, q1, q2, q3, rfl, by have := hf acc x; simp at i3; omega, fun y hy => i4 y (List.mem_cons_of_mem _ hy)⟩) xs [] env (h ++ [.lst []]) ⟨he, rfl, by simpa using hz, hx⟩
  exact ⟨e2, q2, by rw [q1, q3]⟩
theorem forGo_fil {t : Tg} {body : SM} (h : Hpp) (E : Nb.Env → Prop) (p : List Nat → Bool) (C : List Nat → Prop)
    (hs : ∀ x (acc : List (List Nat)) env, C x → E env → acc.length < 100000 → ∃ e1 e2, t (tN x) env = some e1 ∧ body e1 (h ++ [.lst (acc.map tN)]) = .nx e2 (h ++ [.lst ((if p x = true then acc ++ [x] else acc).map tN)]) ∧ E e2) {xs : List (List Nat)} (hx : ∀ x ∈ xs, C x) {env : Nb.Env} (he : E env) (hz : xs.length < 100000) :
    ∃ e2, E e2 ∧ forGo [] t body (xs.map tN) env (h ++ [.lst []]) = .nx e2 (h ++ [.lst ((xs.filter p).map tN)]) := by
  obtain ⟨e2, q1, q2⟩ := forGo_rows (f := fun acc x => if p x = true then acc ++ [x] else acc) h E C (fun acc x => by split <;> simp) hs hx he hz
  rw [foldl_fil] at q2
  exact ⟨e2, q1, q2⟩
theorem app_tN (h : Hpp) (acc : List (List Nat)) (S : List Nat) (hl : acc.length < 100000) : fAppend (.ref h.length) [tN S] (h ++ [.lst (acc.map tN)]) = .ok .non (h ++ [.lst ((acc ++ [S]).map tN)]) := by
  rw [app_c h _ _ rfl (by rw [List.length_map]; omega), List.map_append]; rfl
theorem subs_len {n : Nat} (hn : n ≤ 8) : (subs n).length < 100000 := by
  have h1 := subsTo_len n (n + 1)
  have h2 := pow_8 hn
  show (subsTo n (n + 1)).length < 100000
  omega
/-- what a family of sublists tells -/
def restP (n : Nat) (c : (Nat → Bool) → Bool) (S : List Nat) : Bool := !c (fun y => decide (y ∈ S)) && ((List.range n).filter fun p => !decide (p ∈ S)).all fun p => c fun y => decide (y ∈ S) || decide (y = p)
def kernP (n : Nat) (c : (Nat → Bool) → Bool) (S : List Nat) : Bool := c (fun y => decide (y ∈ S)) && !S.any fun p => c fun y => decide (y ∈ S) && !decide (y = p)
def restsL (n : Nat) (c : (Nat → Bool) → Bool) : List (List Nat) := (subs n).filter (restP n c)
def kernL (n : Nat) (c : (Nat → Bool) → Bool) : List (List Nat) := (subs n).filter (kernP n c)
theorem s_rests {w : Nat} (h1 : 1 ≤ w) (h2 : w ≤ 12) {d lotd : D} {lots : List (List Nat)} {L : List Nat} (g : GB w d lots) (gl : GR w lotd L) (hl : L.length < w) (h : Hpp) : F_rests [d, nI w, lotd] h = .ok (tTs (restsL lots.length (cB w lots L))) h := by
  have hz := g.len
  have e1 := s_base_of h1 h2 g h
  have e2 := s_but_not_all h1 h2 gl hl h
  have e3 := s_carrying (by omega) g.can hz gl.canon h
  have e4 := s_lot_list hz (h ++ [.lst []])
  have e5 := fun h => fLen_tTs lots h
  have loop := forGo_fil (t := tgN 6) (body := (sSeq (sSet 7 (eFn 1 F_mask_of (aCons (eVar 6) aNil)))
  (sSeq (sSet 8 (eLc false (iRg1 (aCons (eCall fLen (aCons (eVar 3) aNil)) aNil)) (tgN 9) (bOp (oIn true) (eVar 9) (eVar 6)) (eOp oIx (eVar 4) (eOp oAdd (eVar 7) (eOp oShl (eC (.int 1)) (eVar 9)))) [9]))
  (sIf (bAnd (bNot (bTru (eOp oIx (eVar 4) (eVar 7)))) (bTru (eCall fAll (aCons (eVar 8) aNil)))) (sExpr (eMt (eVar 5) (aCons (eVar 6) aNil) fAppend)) sNil)))) h (fun env => ∃ x6 x7 x8, env = [some d, some (nI w), some lotd, some (tTs lots), some (carD w lots L), some (.ref h.length), x6, x7, x8, none]) (restP lots.length (cB w lots L)) (canon lots.length) (fun S acc env hS hE hacc => by
    obtain ⟨x6, x7, x8, rfl⟩ := hE
    refine ⟨[some d, some (nI w), some lotd, some (tTs lots), some (carD w lots L), some (.ref h.length), some (tN S), x7, x8, none], [some d, some (nI w), some lotd, some (tTs lots), some (carD w lots L), some (.ref h.length), some (tN S), some (nI (bm lots.length fun x => decide (x ∈ S))), some (.lst (((List.range lots.length).filter fun p => !decide (p ∈ S)).map fun p => .bl (cB w lots L fun y => decide (y ∈ S) || decide (y = p)))), none], rfl, ?_, ⟨_, _, _, rfl⟩⟩
    have m1 := s_mask_of hS (show lots.length ≤ 100 by omega) (h ++ [.lst (acc.map tN)])
    have m2 : (eLc false (iRg1 (aCons (eCall fLen (aCons (eVar 3) aNil)) aNil)) (tgN 9) (bOp (oIn true) (eVar 9) (eVar 6)) (eOp oIx (eVar 4) (eOp oAdd (eVar 7) (eOp oShl (eC (.int 1)) (eVar 9)))) [9]) [some d, some (nI w), some lotd, some (tTs lots), some (carD w lots L), some (.ref h.length), some (tN S), some (nI (bm lots.length fun x => decide (x ∈ S))), x8, none] (h ++ [.lst (acc.map tN)]) = .ok (.lst (((List.range lots.length).filter fun p => !decide (p ∈ S)).map fun p => .bl (cB w lots L fun y => decide (y ∈ S) || decide (y = p)))) (h ++ [.lst (acc.map tN)]) :=
      lc_typed nI (List.range lots.length) _ _ (iRg1_e (by omega) (by simp only [fnM, env0, sSeq, sSet, sRet, sRetN, sIf, sExpr, sNil, onR, eVar, eC, eOp, eAnd, eOr, eNot, eNeg, eIf, bAnd, bOr, bNot, bOp, bTru, asB, eChain, eCall, eFn, eFnD, eFnK, aCons, aNil, R.bind, List.length_cons, List.length_nil, List.replicate, List.map_cons, List.map_nil, List.cons_append, List.nil_append, List.getElem?_cons_zero, List.getElem?_cons_succ, List.set_cons_zero, List.set_cons_succ, wipeE, tgN, truth, bYes, pl_int, pl_bl, pl_non, pl_str, pl_tup, pl_lst, Nat.reduceAdd, Nat.reduceSub, Nat.reduceLT, if_true, Bool.true_and, Bool.and_true, Bool.not_true, Bool.not_false, Bool.false_eq_true, if_false, Nat.zero_add, truth_bl, fTuple_lst, fTuple_tup, e5])) (fun c => srcOk_nil _) (fun x hx c => by
        refine ⟨[some d, some (nI w), some lotd, some (tTs lots), some (carD w lots L), some (.ref h.length), some (tN S), some (nI (bm lots.length fun x => decide (x ∈ S))), x8, some (nI x)], rfl, ?_, fun hp => ?_⟩
        · simp only [fnM, env0, sSeq, sSet, sRet, sRetN, sIf, sExpr, sNil, onR, eVar, eC, eOp, eAnd, eOr, eNot, eNeg, eIf, bAnd, bOr, bNot, bOp, bTru, asB, eChain, eCall, eFn, eFnD, eFnK, aCons, aNil, R.bind, List.length_cons, List.length_nil, List.replicate, List.map_cons, List.map_nil, List.cons_append, List.nil_append, List.getElem?_cons_zero, List.getElem?_cons_succ, List.set_cons_zero, List.set_cons_succ, wipeE, tgN, truth, bYes, pl_int, pl_bl, pl_non, pl_str, pl_tup, pl_lst, Nat.reduceAdd, Nat.reduceSub, Nat.reduceLT, if_true, Bool.true_and, Bool.and_true, Bool.not_true, Bool.not_false, Bool.false_eq_true, if_false, Nat.zero_add, truth_bl, fTuple_lst, fTuple_tup, oIn_tN]
        · have hx' := List.mem_range.mp hx
          have a1 := bm_add (n := lots.length) (p := fun x => decide (x ∈ S)) (x := x) hx' (by simpa using hp)
          have a2 := oIx_car (w := w) (lots := lots) (L := L) (fun y => decide (y ∈ S) || decide (y = x)) (h ++ [.lst (acc.map tN)] ++ [c])
          simp only [fnM, env0, sSeq, sSet, sRet, sRetN, sIf, sExpr, sNil, onR, eVar, eC, eOp, eAnd, eOr, eNot, eNeg, eIf, bAnd, bOr, bNot, bOp, bTru, asB, eChain, eCall, eFn, eFnD, eFnK, aCons, aNil, R.bind, List.length_cons, List.length_nil, List.replicate, List.map_cons, List.map_nil, List.cons_append, List.nil_append, List.getElem?_cons_zero, List.getElem?_cons_succ, List.set_cons_zero, List.set_cons_succ, wipeE, tgN, truth, bYes, pl_int, pl_bl, pl_non, pl_str, pl_tup, pl_lst, Nat.reduceAdd, Nat.reduceSub, Nat.reduceLT, if_true, Bool.true_and, Bool.and_true, Bool.not_true, Bool.not_false, Bool.false_eq_true, if_false, Nat.zero_add, truth_bl, fTuple_lst, fTuple_tup, oShl_nat _ (show x ≤ 1000 by omega), oAdd_nat, a1, a2]) fun _ => rfl
    have m3 := oIx_car (w := w) (lots := lots) (L := L) (fun y => decide (y ∈ S)) (h ++ [.lst (acc.map tN)])
    have m4 := fAll_f (fun p => cB w lots L fun y => decide (y ∈ S) || decide (y = p)) ((List.range lots.length).filter fun p => !decide (p ∈ S)) (h ++ [.lst (acc.map tN)])
    have m5 := app_tN h acc S hacc
    simp only [fnM, env0, sSeq, sSet, sRet, sRetN, sIf, sExpr, sNil, onR, eVar, eC, eOp, eAnd, eOr, eNot, eNeg, eIf, bAnd, bOr, bNot, bOp, bTru, asB, eChain, eCall, eFn, eFnD, eFnK, aCons, aNil, R.bind, List.length_cons, List.length_nil, List.replicate, List.map_cons, List.map_nil, List.cons_append, List.nil_append, List.getElem?_cons_zero, List.getElem?_cons_succ, List.set_cons_zero, List.set_cons_succ, wipeE, tgN, truth, bYes, pl_int, pl_bl, pl_non, pl_str, pl_tup, pl_lst, Nat.reduceAdd, Nat.reduceSub, Nat.reduceLT, if_true, Bool.true_and, Bool.and_true, Bool.not_true, Bool.not_false, Bool.false_eq_true, if_false, Nat.zero_add, truth_bl, fTuple_lst, fTuple_tup, m1, m2, m3, m4]
    unfold restP
    cases cB w lots L (fun y => decide (y ∈ S)) with
    | true => simp
    | false =>
      simp only [Bool.not_false, Bool.true_and, if_true]
      cases (((List.range lots.length).filter fun p => !decide (p ∈ S)).all fun p => cB w lots L fun y => decide (y ∈ S) || decide (y = p)) with
      | false => simp
      | true => simp only [if_true, eMt, fnM, env0, sSeq, sSet, sRet, sRetN, sIf, sExpr, sNil, onR, eVar, eC, eOp, eAnd, eOr, eNot, eNeg, eIf, bAnd, bOr, bNot, bOp, bTru, asB, eChain, eCall, eFn, eFnD, eFnK, aCons, aNil, R.bind, List.length_cons, List.length_nil, List.replicate, List.map_cons, List.map_nil, List.cons_append, List.nil_append, List.getElem?_cons_zero, List.getElem?_cons_succ, List.set_cons_zero, List.set_cons_succ, wipeE, tgN, truth, bYes, pl_int, pl_bl, pl_non, pl_str, pl_tup, pl_lst, Nat.reduceAdd, Nat.reduceSub, Nat.reduceLT, if_true, Bool.true_and, Bool.and_true, Bool.not_true, Bool.not_false, Bool.false_eq_true, if_false, Nat.zero_add, truth_bl, fTuple_lst, fTuple_tup, asL_c, m5]) (xs := subs lots.length) (fun S hS => mem_subs.mp hS) (env := [some d, some (nI w), some lotd, some (tTs lots), some (carD w lots L), some (.ref h.length), none, none, none, none]) ⟨_, _, _, rfl⟩ (subs_len hz)
  obtain ⟨env, ⟨x6, x7, x8, rfl⟩, loop⟩ := loop
  have it : (iAny (eFn 2 F_lot_list (aCons (eCall fLen (aCons (eVar 3) aNil)) (aCons (eCall fLen (aCons (eVar 3) aNil)) aNil)))) [some d, some (nI w), some lotd, some (tTs lots), some (carD w lots L), some (.ref h.length), none, none, none, none] (h ++ [.lst []]) = .ok ⟨(subs lots.length).map tN, []⟩ (h ++ [.lst []]) := iAny_e (d := lT (subs lots.length)) (by simp only [fnM, env0, sSeq, sSet, sRet, sRetN, sIf, sExpr, sNil, onR, eVar, eC, eOp, eAnd, eOr, eNot, eNeg, eIf, bAnd, bOr, bNot, bOp, bTru, asB, eChain, eCall, eFn, eFnD, eFnK, aCons, aNil, R.bind, List.length_cons, List.length_nil, List.replicate, List.map_cons, List.map_nil, List.cons_append, List.nil_append, List.getElem?_cons_zero, List.getElem?_cons_succ, List.set_cons_zero, List.set_cons_succ, wipeE, tgN, truth, bYes, pl_int, pl_bl, pl_non, pl_str, pl_tup, pl_lst, Nat.reduceAdd, Nat.reduceSub, Nat.reduceLT, if_true, Bool.true_and, Bool.and_true, Bool.not_true, Bool.not_false, Bool.false_eq_true, if_false, Nat.zero_add, truth_bl, fTuple_lst, fTuple_tup, e5, e4]) (.inr rfl)
  have e6 : eLst true aNil [some d, some (nI w), some lotd, some (tTs lots), some (carD w lots L), none, none, none, none, none] h = .ok (.ref h.length) (h ++ [.lst []]) := rfl
  simp only [F_rests, m_rests, fnM, env0, sSeq, sSet, sRet, sRetN, sIf, sExpr, sNil, onR, eVar, eC, eOp, eAnd, eOr, eNot, eNeg, eIf, bAnd, bOr, bNot, bOp, bTru, asB, eChain, eCall, eFn, eFnD, eFnK, aCons, aNil, R.bind, List.length_cons, List.length_nil, List.replicate, List.map_cons, List.map_nil, List.cons_append, List.nil_append, List.getElem?_cons_zero, List.getElem?_cons_succ, List.set_cons_zero, List.set_cons_succ, wipeE, tgN, truth, bYes, pl_int, pl_bl, pl_non, pl_str, pl_tup, pl_lst, Nat.reduceAdd, Nat.reduceSub, Nat.reduceLT, if_true, Bool.true_and, Bool.and_true, Bool.not_true, Bool.not_false, Bool.false_eq_true, if_false, Nat.zero_add, truth_bl, fTuple_lst, fTuple_tup, e1, e2, e3, e6, sFor, it, loop, restsL, fTuple, asS_c]
  exact fin_cell rfl
theorem s_kernels {w : Nat} (h1 : 1 ≤ w) (h2 : w ≤ 12) {d lotd : D} {lots : List (List Nat)} {L : List Nat} (g : GB w d lots) (gl : GR w lotd L) (hl : L.length < w) (h : Hpp) : F_kernels [d, nI w, lotd] h = .ok (tTs (kernL lots.length (cB w lots L))) h := by
  have hz := g.len
  have e1 := s_base_of h1 h2 g h
  have e2 := s_but_not_all h1 h2 gl hl h
  have e3 := s_carrying (by omega) g.can hz gl.canon h
  have e4 := s_lot_list hz (h ++ [.lst []])
  have e5 := fun h => fLen_tTs lots h
  have loop := forGo_fil (t := tgN 6) (body := (sSeq (sSet 7 (eFn 1 F_mask_of (aCons (eVar 6) aNil)))
  (sIf (bAnd (bTru (eOp oIx (eVar 4) (eVar 7))) (bNot (bTru (eCall fAny (aCons (eLc false (iAny (eVar 6)) (tgN 8) bYes (eOp oIx (eVar 4) (eOp oSub (eVar 7) (eOp oShl (eC (.int 1)) (eVar 8)))) [8]) aNil))))) (sExpr (eMt (eVar 5) (aCons (eVar 6) aNil) fAppend)) sNil))) h (fun env => ∃ x6 x7, env = [some d, some (nI w), some lotd, some (tTs lots), some (carD w lots L), some (.ref h.length), x6, x7, none]) (kernP lots.length (cB w lots L)) (canon lots.length) (fun S acc env hS hE hacc => by
    obtain ⟨x6, x7, rfl⟩ := hE
    refine ⟨[some d, some (nI w), some lotd, some (tTs lots), some (carD w lots L), some (.ref h.length), some (tN S), x7, none], [some d, some (nI w), some lotd, some (tTs lots), some (carD w lots L), some (.ref h.length), some (tN S), some (nI (bm lots.length fun x => decide (x ∈ S))), none], rfl, ?_, ⟨_, _, rfl⟩⟩
    have m1 := s_mask_of hS (show lots.length ≤ 100 by omega) (h ++ [.lst (acc.map tN)])
    have m2 : (eLc false (iAny (eVar 6)) (tgN 8) bYes (eOp oIx (eVar 4) (eOp oSub (eVar 7) (eOp oShl (eC (.int 1)) (eVar 8)))) [8]) [some d, some (nI w), some lotd, some (tTs lots), some (carD w lots L), some (.ref h.length), some (tN S), some (nI (bm lots.length fun x => decide (x ∈ S))), none] (h ++ [.lst (acc.map tN)]) = .ok (.lst (S.map fun p => .bl (cB w lots L fun y => decide (y ∈ S) && !decide (y = p)))) (h ++ [.lst (acc.map tN)]) :=
      lc_map nI S _ (iAny_tN (i := 6) rfl) (fun x hx c => by
        refine ⟨[some d, some (nI w), some lotd, some (tTs lots), some (carD w lots L), some (.ref h.length), some (tN S), some (nI (bm lots.length fun x => decide (x ∈ S))), some (nI x)], rfl, ?_⟩
        have hx' := hS.2 x hx
        have a1 := bm_sub (n := lots.length) (p := fun x => decide (x ∈ S)) (x := x) hx' (by simpa using hx)
        have a0 := two_le_bm (n := lots.length) (p := fun x => decide (x ∈ S)) (x := x) hx' (by simpa using hx)
        have a2 := oIx_car (w := w) (lots := lots) (L := L) (fun y => decide (y ∈ S) && !decide (y = x)) (h ++ [.lst (acc.map tN)] ++ [c])
        have a3 := oSub_nat (h ++ [.lst (acc.map tN)] ++ [c]) a0
        rw [a1] at a3
        simp only [fnM, env0, sSeq, sSet, sRet, sRetN, sIf, sExpr, sNil, onR, eVar, eC, eOp, eAnd, eOr, eNot, eNeg, eIf, bAnd, bOr, bNot, bOp, bTru, asB, eChain, eCall, eFn, eFnD, eFnK, aCons, aNil, R.bind, List.length_cons, List.length_nil, List.replicate, List.map_cons, List.map_nil, List.cons_append, List.nil_append, List.getElem?_cons_zero, List.getElem?_cons_succ, List.set_cons_zero, List.set_cons_succ, wipeE, tgN, truth, bYes, pl_int, pl_bl, pl_non, pl_str, pl_tup, pl_lst, Nat.reduceAdd, Nat.reduceSub, Nat.reduceLT, if_true, Bool.true_and, Bool.and_true, Bool.not_true, Bool.not_false, Bool.false_eq_true, if_false, Nat.zero_add, truth_bl, fTuple_lst, fTuple_tup, oShl_nat _ (show x ≤ 1000 by omega), a3, a2]) fun _ => rfl
    have m3 := oIx_car (w := w) (lots := lots) (L := L) (fun y => decide (y ∈ S)) (h ++ [.lst (acc.map tN)])
    have m4 := fAny_f (fun p => cB w lots L fun y => decide (y ∈ S) && !decide (y = p)) S (h ++ [.lst (acc.map tN)])
    have m5 := app_tN h acc S hacc
    simp only [fnM, env0, sSeq, sSet, sRet, sRetN, sIf, sExpr, sNil, onR, eVar, eC, eOp, eAnd, eOr, eNot, eNeg, eIf, bAnd, bOr, bNot, bOp, bTru, asB, eChain, eCall, eFn, eFnD, eFnK, aCons, aNil, R.bind, List.length_cons, List.length_nil, List.replicate, List.map_cons, List.map_nil, List.cons_append, List.nil_append, List.getElem?_cons_zero, List.getElem?_cons_succ, List.set_cons_zero, List.set_cons_succ, wipeE, tgN, truth, bYes, pl_int, pl_bl, pl_non, pl_str, pl_tup, pl_lst, Nat.reduceAdd, Nat.reduceSub, Nat.reduceLT, if_true, Bool.true_and, Bool.and_true, Bool.not_true, Bool.not_false, Bool.false_eq_true, if_false, Nat.zero_add, truth_bl, fTuple_lst, fTuple_tup, m1, m2, m3, m4]
    unfold kernP
    cases cB w lots L (fun y => decide (y ∈ S)) with
    | false => simp
    | true =>
      simp only [Bool.true_and, if_true]
      cases (S.any fun p => cB w lots L fun y => decide (y ∈ S) && !decide (y = p)) with
      | true => simp
      | false => simp only [Bool.not_false, if_true, eMt, fnM, env0, sSeq, sSet, sRet, sRetN, sIf, sExpr, sNil, onR, eVar, eC, eOp, eAnd, eOr, eNot, eNeg, eIf, bAnd, bOr, bNot, bOp, bTru, asB, eChain, eCall, eFn, eFnD, eFnK, aCons, aNil, R.bind, List.length_cons, List.length_nil, List.replicate, List.map_cons, List.map_nil, List.cons_append, List.nil_append, List.getElem?_cons_zero, List.getElem?_cons_succ, List.set_cons_zero, List.set_cons_succ, wipeE, tgN, truth, bYes, pl_int, pl_bl, pl_non, pl_str, pl_tup, pl_lst, Nat.reduceAdd, Nat.reduceSub, Nat.reduceLT, if_true, Bool.true_and, Bool.and_true, Bool.not_true, Bool.not_false, Bool.false_eq_true, if_false, Nat.zero_add, truth_bl, fTuple_lst, fTuple_tup, asL_c, m5]) (xs := subs lots.length) (fun S hS => mem_subs.mp hS) (env := [some d, some (nI w), some lotd, some (tTs lots), some (carD w lots L), some (.ref h.length), none, none, none]) ⟨_, _, rfl⟩ (subs_len hz)
  obtain ⟨env, ⟨x6, x7, rfl⟩, loop⟩ := loop
  have it : (iAny (eFn 2 F_lot_list (aCons (eCall fLen (aCons (eVar 3) aNil)) (aCons (eCall fLen (aCons (eVar 3) aNil)) aNil)))) [some d, some (nI w), some lotd, some (tTs lots), some (carD w lots L), some (.ref h.length), none, none, none] (h ++ [.lst []]) = .ok ⟨(subs lots.length).map tN, []⟩ (h ++ [.lst []]) := iAny_e (d := lT (subs lots.length)) (by simp only [fnM, env0, sSeq, sSet, sRet, sRetN, sIf, sExpr, sNil, onR, eVar, eC, eOp, eAnd, eOr, eNot, eNeg, eIf, bAnd, bOr, bNot, bOp, bTru, asB, eChain, eCall, eFn, eFnD, eFnK, aCons, aNil, R.bind, List.length_cons, List.length_nil, List.replicate, List.map_cons, List.map_nil, List.cons_append, List.nil_append, List.getElem?_cons_zero, List.getElem?_cons_succ, List.set_cons_zero, List.set_cons_succ, wipeE, tgN, truth, bYes, pl_int, pl_bl, pl_non, pl_str, pl_tup, pl_lst, Nat.reduceAdd, Nat.reduceSub, Nat.reduceLT, if_true, Bool.true_and, Bool.and_true, Bool.not_true, Bool.not_false, Bool.false_eq_true, if_false, Nat.zero_add, truth_bl, fTuple_lst, fTuple_tup, e5, e4]) (.inr rfl)
  have e6 : eLst true aNil [some d, some (nI w), some lotd, some (tTs lots), some (carD w lots L), none, none, none, none] h = .ok (.ref h.length) (h ++ [.lst []]) := rfl
  simp only [F_kernels, m_kernels, fnM, env0, sSeq, sSet, sRet, sRetN, sIf, sExpr, sNil, onR, eVar, eC, eOp, eAnd, eOr, eNot, eNeg, eIf, bAnd, bOr, bNot, bOp, bTru, asB, eChain, eCall, eFn, eFnD, eFnK, aCons, aNil, R.bind, List.length_cons, List.length_nil, List.replicate, List.map_cons, List.map_nil, List.cons_append, List.nil_append, List.getElem?_cons_zero, List.getElem?_cons_succ, List.set_cons_zero, List.set_cons_succ, wipeE, tgN, truth, bYes, pl_int, pl_bl, pl_non, pl_str, pl_tup, pl_lst, Nat.reduceAdd, Nat.reduceSub, Nat.reduceLT, if_true, Bool.true_and, Bool.and_true, Bool.not_true, Bool.not_false, Bool.false_eq_true, if_false, Nat.zero_add, truth_bl, fTuple_lst, fTuple_tup, e1, e2, e3, e6, sFor, it, loop, kernL, fTuple, asS_c]
  exact fin_cell rfl
/-- an all-lot is refused -/
theorem s_rests_all {w : Nat} (h1 : 1 ≤ w) (h2 : w ≤ 12) {d lotd : D} {lots : List (List Nat)} {L : List Nat} (g : GB w d lots) (gl : GR w lotd L) (hl : L.length = w) (h : Hpp) : F_rests [d, nI w, lotd] h = .exc 2 [("place", .int (-1))] h := by
  have e1 := s_base_of h1 h2 g h
  have e2 := s_but_all h1 h2 gl hl h
  simp only [F_rests, m_rests, fnM, env0, sSeq, sSet, sRet, sRetN, sIf, sExpr, sNil, onR, eVar, eC, eOp, eAnd, eOr, eNot, eNeg, eIf, bAnd, bOr, bNot, bOp, bTru, asB, eChain, eCall, eFn, eFnD, eFnK, aCons, aNil, R.bind, List.length_cons, List.length_nil, List.replicate, List.map_cons, List.map_nil, List.cons_append, List.nil_append, List.getElem?_cons_zero, List.getElem?_cons_succ, List.set_cons_zero, List.set_cons_succ, wipeE, tgN, truth, bYes, pl_int, pl_bl, pl_non, pl_str, pl_tup, pl_lst, Nat.reduceAdd, Nat.reduceSub, Nat.reduceLT, if_true, Bool.true_and, Bool.and_true, Bool.not_true, Bool.not_false, Bool.false_eq_true, if_false, Nat.zero_add, truth_bl, fTuple_lst, fTuple_tup, e1, e2, List.take_length]
theorem s_kernels_all {w : Nat} (h1 : 1 ≤ w) (h2 : w ≤ 12) {d lotd : D} {lots : List (List Nat)} {L : List Nat} (g : GB w d lots) (gl : GR w lotd L) (hl : L.length = w) (h : Hpp) : F_kernels [d, nI w, lotd] h = .exc 2 [("place", .int (-1))] h := by
  have e1 := s_base_of h1 h2 g h
  have e2 := s_but_all h1 h2 gl hl h
  simp only [F_kernels, m_kernels, fnM, env0, sSeq, sSet, sRet, sRetN, sIf, sExpr, sNil, onR, eVar, eC, eOp, eAnd, eOr, eNot, eNeg, eIf, bAnd, bOr, bNot, bOp, bTru, asB, eChain, eCall, eFn, eFnD, eFnK, aCons, aNil, R.bind, List.length_cons, List.length_nil, List.replicate, List.map_cons, List.map_nil, List.cons_append, List.nil_append, List.getElem?_cons_zero, List.getElem?_cons_succ, List.set_cons_zero, List.set_cons_succ, wipeE, tgN, truth, bYes, pl_int, pl_bl, pl_non, pl_str, pl_tup, pl_lst, Nat.reduceAdd, Nat.reduceSub, Nat.reduceLT, if_true, Bool.true_and, Bool.and_true, Bool.not_true, Bool.not_false, Bool.false_eq_true, if_false, Nat.zero_add, truth_bl, fTuple_lst, fTuple_tup, e1, e2, List.take_length]
end Law
end
end
section
set_option Elab.async false
set_option linter.all false
set_option maxRecDepth 100000
set_option maxHeartbeats 400000
noncomputable section
namespace Law
open Nb
def coL (n : Nat) (S : List Nat) : List Nat := (List.range n).filter fun x => !decide (x ∈ S)
theorem s_left_out {n : Nat} (hn : n ≤ 8) {d : D} {S : List Nat} (g : GR n d S) (h : Hpp) : F_left_out [d, nI n] h = .ok (tN (coL n S)) h := by
  have e1 := s_check_many hn h
  have e2 := s_places g h
  have e3 : (eLc false (iRg1 (aCons (eVar 1) aNil)) (tgN 3) (bOp (oIn true) (eVar 3) (eVar 2)) (eVar 3) [3]) [some d, some (nI n), some (tN S), none] h = .ok (lN (coL n S)) h :=
    lc_fil nI (List.range n) _ nI (iRg1_e (by omega) (by simp only [fnM, env0, sSeq, sSet, sRet, sRetN, sIf, sExpr, sNil, onR, eVar, eC, eOp, eAnd, eOr, eNot, eNeg, eIf, bAnd, bOr, bNot, bOp, bTru, asB, eChain, eCall, eFn, eFnD, eFnK, aCons, aNil, R.bind, List.length_cons, List.length_nil, List.replicate, List.map_cons, List.map_nil, List.cons_append, List.nil_append, List.getElem?_cons_zero, List.getElem?_cons_succ, List.set_cons_zero, List.set_cons_succ, wipeE, tgN, truth, bYes, pl_int, pl_bl, pl_non, pl_str, pl_tup, pl_lst, Nat.reduceAdd, Nat.reduceSub, Nat.reduceLT, if_true, Bool.true_and, Bool.and_true, Bool.not_true, Bool.not_false, Bool.false_eq_true, if_false, Nat.zero_add, truth_bl, fTuple_lst, fTuple_tup])) (fun x hx c => ⟨[some d, some (nI n), some (tN S), some (nI x)], rfl, by simp only [fnM, env0, sSeq, sSet, sRet, sRetN, sIf, sExpr, sNil, onR, eVar, eC, eOp, eAnd, eOr, eNot, eNeg, eIf, bAnd, bOr, bNot, bOp, bTru, asB, eChain, eCall, eFn, eFnD, eFnK, aCons, aNil, R.bind, List.length_cons, List.length_nil, List.replicate, List.map_cons, List.map_nil, List.cons_append, List.nil_append, List.getElem?_cons_zero, List.getElem?_cons_succ, List.set_cons_zero, List.set_cons_succ, wipeE, tgN, truth, bYes, pl_int, pl_bl, pl_non, pl_str, pl_tup, pl_lst, Nat.reduceAdd, Nat.reduceSub, Nat.reduceLT, if_true, Bool.true_and, Bool.and_true, Bool.not_true, Bool.not_false, Bool.false_eq_true, if_false, Nat.zero_add, truth_bl, fTuple_lst, fTuple_tup, oIn_tN], rfl⟩) fun _ => rfl
  have e4 : fTuple [lN (coL n S)] h = .ok (tN (coL n S)) h := rfl
  simp only [F_left_out, m_left_out, fnM, env0, sSeq, sSet, sRet, sRetN, sIf, sExpr, sNil, onR, eVar, eC, eOp, eAnd, eOr, eNot, eNeg, eIf, bAnd, bOr, bNot, bOp, bTru, asB, eChain, eCall, eFn, eFnD, eFnK, aCons, aNil, R.bind, List.length_cons, List.length_nil, List.replicate, List.map_cons, List.map_nil, List.cons_append, List.nil_append, List.getElem?_cons_zero, List.getElem?_cons_succ, List.set_cons_zero, List.set_cons_succ, wipeE, tgN, truth, bYes, pl_int, pl_bl, pl_non, pl_str, pl_tup, pl_lst, Nat.reduceAdd, Nat.reduceSub, Nat.reduceLT, if_true, Bool.true_and, Bool.and_true, Bool.not_true, Bool.not_false, Bool.false_eq_true, if_false, Nat.zero_add, truth_bl, fTuple_lst, fTuple_tup, e1, e2, e3, e4]
  exact fin_same rfl
theorem s_left_nine (d : D) (h : Hpp) : F_left_out [d, .int 9] h = .exc 1 [("name", .str "many")] h := by
  have e1 := s_check_nine h
  simp only [F_left_out, m_left_out, fnM, env0, sSeq, sSet, sRet, sRetN, sIf, sExpr, sNil, onR, eVar, eC, eOp, eAnd, eOr, eNot, eNeg, eIf, bAnd, bOr, bNot, bOp, bTru, asB, eChain, eCall, eFn, eFnD, eFnK, aCons, aNil, R.bind, List.length_cons, List.length_nil, List.replicate, List.map_cons, List.map_nil, List.cons_append, List.nil_append, List.getElem?_cons_zero, List.getElem?_cons_succ, List.set_cons_zero, List.set_cons_succ, wipeE, tgN, truth, bYes, pl_int, pl_bl, pl_non, pl_str, pl_tup, pl_lst, Nat.reduceAdd, Nat.reduceSub, Nat.reduceLT, if_true, Bool.true_and, Bool.and_true, Bool.not_true, Bool.not_false, Bool.false_eq_true, if_false, Nat.zero_add, truth_bl, fTuple_lst, fTuple_tup, e1, List.take_length]
theorem s_left_exc {n : Nat} (hn : n ≤ 8) {d x : D} (h : Hpp) (e : F_places_of [d, nI n] h = .exc 3 [("place", x)] h) : F_left_out [d, nI n] h = .exc 3 [("place", x)] h := by
  have e1 := s_check_many hn h
  simp only [F_left_out, m_left_out, fnM, env0, sSeq, sSet, sRet, sRetN, sIf, sExpr, sNil, onR, eVar, eC, eOp, eAnd, eOr, eNot, eNeg, eIf, bAnd, bOr, bNot, bOp, bTru, asB, eChain, eCall, eFn, eFnD, eFnK, aCons, aNil, R.bind, List.length_cons, List.length_nil, List.replicate, List.map_cons, List.map_nil, List.cons_append, List.nil_append, List.getElem?_cons_zero, List.getElem?_cons_succ, List.set_cons_zero, List.set_cons_succ, wipeE, tgN, truth, bYes, pl_int, pl_bl, pl_non, pl_str, pl_tup, pl_lst, Nat.reduceAdd, Nat.reduceSub, Nat.reduceLT, if_true, Bool.true_and, Bool.and_true, Bool.not_true, Bool.not_false, Bool.false_eq_true, if_false, Nat.zero_add, truth_bl, fTuple_lst, fTuple_tup, e1, e, List.take_length]
abbrev hitB : SM := (sTryOnly [3] (sExpr (eMt (eVar 2) (aCons (eFn 2 F_places_of (aCons (eVar 4) (aCons (eVar 1) aNil))) aNil) fAppend)) (sRaise 3 "place" (eVar 5)))
theorem hit_good {n : Nat} (row : D) (k : Nat) (x : Option D) (h : Hpp) {d : D} {S : List Nat} (g : GR n d S) (acc : List (List Nat)) (hz : acc.length < 100000) :
    hitB [some row, some (nI n), some (.ref h.length), none, some d, some (nI k), none, none] (h ++ [.lst (acc.map tN)]) = .nx [some row, some (nI n), some (.ref h.length), none, some d, some (nI k), none, none] (h ++ [.lst ((acc ++ [S]).map tN)]) := by
  have e1 := fun h => s_places g h
  have eap := app_tN h acc S hz
  simp only [hitB, sTryOnly, eMt, fnM, env0, sSeq, sSet, sRet, sRetN, sIf, sExpr, sNil, onR, eVar, eC, eOp, eAnd, eOr, eNot, eNeg, eIf, bAnd, bOr, bNot, bOp, bTru, asB, eChain, eCall, eFn, eFnD, eFnK, aCons, aNil, R.bind, List.length_cons, List.length_nil, List.replicate, List.map_cons, List.map_nil, List.cons_append, List.nil_append, List.getElem?_cons_zero, List.getElem?_cons_succ, List.set_cons_zero, List.set_cons_succ, wipeE, tgN, truth, bYes, pl_int, pl_bl, pl_non, pl_str, pl_tup, pl_lst, Nat.reduceAdd, Nat.reduceSub, Nat.reduceLT, if_true, Bool.true_and, Bool.and_true, Bool.not_true, Bool.not_false, Bool.false_eq_true, if_false, Nat.zero_add, truth_bl, fTuple_lst, fTuple_tup, e1, asL_c, eap]
theorem hit_loop {n : Nat} (row : D) (h : Hpp) (rest : List D) : ∀ (gs : List (D × List Nat)) (acc : List (List Nat)) (k : Nat) (x y : Option D), (∀ p ∈ gs, GR n p.1 p.2) → acc.length + gs.length < 100000 →
    ∃ x' y', forGo [] (tgT [5, 4]) hitB (enF k (gs.map (·.1) ++ rest)) [some row, some (nI n), some (.ref h.length), none, x, y, none, none] (h ++ [.lst (acc.map tN)]) =
      forGo [] (tgT [5, 4]) hitB (enF (k + gs.length) rest) [some row, some (nI n), some (.ref h.length), none, x', y', none, none] (h ++ [.lst ((acc ++ gs.map fun p => p.2).map tN)])
  | [], acc, k, x, y, _, _ => ⟨x, y, by simp⟩
  | p :: gs, acc, k, x, y, hg, hz => by
    obtain ⟨x', y', ih⟩ := hit_loop row h rest gs (acc ++ [p.2]) (k + 1) (some p.1) (some (nI k)) (fun q hq => hg q (List.mem_cons_of_mem _ hq)) (by simp at hz ⊢; omega)
    have st := hit_good row k none h (hg p List.mem_cons_self) acc (by simp at hz; omega)
    have tg : tgT [5, 4] (.tup [nI k, p.1]) [some row, some (nI n), some (.ref h.length), none, x, y, none, none] = some [some row, some (nI n), some (.ref h.length), none, some p.1, some (nI k), none, none] := by simp [tgT, tgs]
    refine ⟨x', y', ?_⟩
    simp only [List.map_cons, List.cons_append, enF]
    rw [forGo, if_pos (srcOk_nil _)]
    simp only [tg, st, ih]
    rw [List.append_assoc, List.length_cons, show k + 1 + gs.length = k + (gs.length + 1) by omega]; rfl
/-- the minimal rows that meet them all -/
def hitF (Ks : List (List Nat)) (acc : List (List Nat)) (S : List Nat) : List (List Nat) := if ((Ks.all fun K => S.any fun x => decide (x ∈ K)) && !acc.any fun T => T.all fun x => decide (x ∈ S)) = true then acc ++ [S] else acc
def hitL (n : Nat) (Ks : List (List Nat)) : List (List Nat) := (subs n).foldl (hitF Ks) []
theorem iAny_cell {i k : Nat} {env : Nb.Env} {l : List D} {h : Hpp} (he : env[i]? = some (some (.ref k))) (hk : h[k]? = some (.lst l)) : iAny (eVar i) env h = .ok ⟨l, [(k, l)]⟩ h := by
  simp [iAny, eVar, he, R.bind, itOf, asS, asL, srcOf, hk]
theorem srcOk_cell {k : Nat} {l : List D} {h : Hpp} (hk : h[k]? = some (.lst l)) (c : Cell) : srcOk [(k, l)] (h ++ [c]) := by
  intro p hp
  have : p = (k, l) := by simpa using hp
  subst this
  rw [List.getElem?_append_left (List.getElem?_eq_some_iff.mp hk).1]; exact hk
theorem asS_cell {k : Nat} {l : List D} {h : Hpp} (hk : h[k]? = some (.lst l)) : asS (.ref k) h = some l := by simp [asS, asL, hk]
/-- a row of rows of numbers below n -/
def GRs (n : Nat) (d : D) (Ks : List (List Nat)) : Prop := ∃ gs : List (D × List Nat), rowI d = some (gs.map (·.1)) ∧ plain d = true ∧ (∀ p ∈ gs, GR n p.1 p.2) ∧ gs.length < 100000 ∧ Ks = gs.map fun p => p.2
theorem s_hitting {n : Nat} (hn : n ≤ 8) {d : D} {Ks : List (List Nat)} (g : GRs n d Ks) (h : Hpp) : F_hitting [d, nI n] h = .ok (tTs (hitL n Ks)) h := by
  obtain ⟨gs, g1, g2, g3, g4, rfl⟩ := g
  have e0 := fun h => s_check_many hn h
  have e1 := fun h => s_is_row d h g2
  rw [rowI_isRow, g1] at e1
  obtain ⟨x, y, e2⟩ := hit_loop d h [] gs [] 0 none none g3 (by simpa using g4)
  rw [List.append_nil, enF, forGo, if_pos (srcOk_nil _)] at e2
  simp only [List.map_nil, List.nil_append] at e2
  have it := iEnu_at (i := 0) (env := [some d, some (nI n), some (.ref h.length), none, none, none, none, none]) (h := h ++ [.lst []]) rfl (rowI_some g1)
  generalize hKs : gs.map (fun p => p.2) = Ks at *
  have hc : (h ++ [Cell.lst (Ks.map tN)])[h.length]? = some (.lst (Ks.map tN)) := c_at _ _
  generalize hh : h ++ [Cell.lst (Ks.map tN)] = h' at *
  have e4 := s_lot_list hn (h' ++ [.lst []])
  have e6 : eLst true aNil [some d, some (nI n), some (.ref h.length), none, none, none, none, none] h = .ok (.ref h.length) (h ++ [.lst []]) := rfl
  have e6' : eLst true aNil [some d, some (nI n), none, none, none, none, none, none] h = .ok (.ref h.length) (h ++ [.lst []]) := rfl
  have e7 : eLst true aNil [some d, some (nI n), some (.ref h.length), none, x, y, none, none] h' = .ok (.ref h'.length) (h' ++ [.lst []]) := rfl
  have loop := forGo_rows (t := tgN 4) (body := (sIf (bAnd (bTru (eCall fAll (aCons (eLc false (iAny (eVar 2)) (tgN 6) bYes (eFn 2 F_meets (aCons (eVar 4) (aCons (eVar 6) aNil))) [6]) aNil))) (bNot (bTru (eCall fAny (aCons (eLc false (iAny (eVar 3)) (tgN 7) bYes (eFn 2 F_inside (aCons (eVar 7) (aCons (eVar 4) aNil))) [7]) aNil))))) (sExpr (eMt (eVar 3) (aCons (eVar 4) aNil) fAppend)) sNil)) h' (fun env => ∃ x4, env = [some d, some (nI n), some (.ref h.length), some (.ref h'.length), x4, y, none, none]) (hitF Ks) (canon n) (fun acc x => by unfold hitF; split <;> simp) (fun S acc env hS hE hacc => by
    obtain ⟨x4, rfl⟩ := hE
    refine ⟨[some d, some (nI n), some (.ref h.length), some (.ref h'.length), some (tN S), y, none, none], [some d, some (nI n), some (.ref h.length), some (.ref h'.length), some (tN S), y, none, none], rfl, ?_, ⟨_, rfl⟩⟩
    have hc2 : (h' ++ [Cell.lst (acc.map tN)])[h.length]? = some (.lst (Ks.map tN)) := by
      rw [List.getElem?_append_left (List.getElem?_eq_some_iff.mp hc).1]; exact hc
    have hc3 : (h' ++ [Cell.lst (acc.map tN)])[h'.length]? = some (.lst (acc.map tN)) := c_at _ _
    have m1 : (eLc false (iAny (eVar 2)) (tgN 6) bYes (eFn 2 F_meets (aCons (eVar 4) (aCons (eVar 6) aNil))) [6]) [some d, some (nI n), some (.ref h.length), some (.ref h'.length), some (tN S), y, none, none] (h' ++ [.lst (acc.map tN)]) = .ok (.lst (Ks.map fun K => .bl (S.any fun x => decide (x ∈ K)))) (h' ++ [.lst (acc.map tN)]) := by
      have := lc_typed (tt := bYes) (t := tgN 6) (vs := [6]) (te := (eFn 2 F_meets (aCons (eVar 4) (aCons (eVar 6) aNil)))) tN Ks (fun _ => true) (fun K => .bl (S.any fun x => decide (x ∈ K))) (iAny_cell (i := 2) (env := [some d, some (nI n), some (.ref h.length), some (.ref h'.length), some (tN S), y, none, none]) rfl hc2) (fun c => srcOk_cell hc2 c) (fun K _ c => ⟨[some d, some (nI n), some (.ref h.length), some (.ref h'.length), some (tN S), y, some (tN K), none], rfl, rfl, fun _ => by
        have := s_meets S K (h' ++ [.lst (acc.map tN)] ++ [c])
        simp only [fnM, env0, sSeq, sSet, sRet, sRetN, sIf, sExpr, sNil, onR, eVar, eC, eOp, eAnd, eOr, eNot, eNeg, eIf, bAnd, bOr, bNot, bOp, bTru, asB, eChain, eCall, eFn, eFnD, eFnK, aCons, aNil, R.bind, List.length_cons, List.length_nil, List.replicate, List.map_cons, List.map_nil, List.cons_append, List.nil_append, List.getElem?_cons_zero, List.getElem?_cons_succ, List.set_cons_zero, List.set_cons_succ, wipeE, tgN, truth, bYes, pl_int, pl_bl, pl_non, pl_str, pl_tup, pl_lst, Nat.reduceAdd, Nat.reduceSub, Nat.reduceLT, if_true, Bool.true_and, Bool.and_true, Bool.not_true, Bool.not_false, Bool.false_eq_true, if_false, Nat.zero_add, truth_bl, fTuple_lst, fTuple_tup, this]⟩) fun _ => rfl
      rw [filter_yes] at this
      exact this
    have m2 : (eLc false (iAny (eVar 3)) (tgN 7) bYes (eFn 2 F_inside (aCons (eVar 7) (aCons (eVar 4) aNil))) [7]) [some d, some (nI n), some (.ref h.length), some (.ref h'.length), some (tN S), y, none, none] (h' ++ [.lst (acc.map tN)]) = .ok (.lst (acc.map fun T => .bl (T.all fun x => decide (x ∈ S)))) (h' ++ [.lst (acc.map tN)]) := by
      have := lc_typed (tt := bYes) (t := tgN 7) (vs := [7]) (te := (eFn 2 F_inside (aCons (eVar 7) (aCons (eVar 4) aNil)))) tN acc (fun _ => true) (fun T => .bl (T.all fun x => decide (x ∈ S))) (iAny_cell (i := 3) (env := [some d, some (nI n), some (.ref h.length), some (.ref h'.length), some (tN S), y, none, none]) rfl hc3) (fun c => srcOk_cell hc3 c) (fun T _ c => ⟨[some d, some (nI n), some (.ref h.length), some (.ref h'.length), some (tN S), y, none, some (tN T)], rfl, rfl, fun _ => by
        have := s_inside T S (h' ++ [.lst (acc.map tN)] ++ [c])
        simp only [fnM, env0, sSeq, sSet, sRet, sRetN, sIf, sExpr, sNil, onR, eVar, eC, eOp, eAnd, eOr, eNot, eNeg, eIf, bAnd, bOr, bNot, bOp, bTru, asB, eChain, eCall, eFn, eFnD, eFnK, aCons, aNil, R.bind, List.length_cons, List.length_nil, List.replicate, List.map_cons, List.map_nil, List.cons_append, List.nil_append, List.getElem?_cons_zero, List.getElem?_cons_succ, List.set_cons_zero, List.set_cons_succ, wipeE, tgN, truth, bYes, pl_int, pl_bl, pl_non, pl_str, pl_tup, pl_lst, Nat.reduceAdd, Nat.reduceSub, Nat.reduceLT, if_true, Bool.true_and, Bool.and_true, Bool.not_true, Bool.not_false, Bool.false_eq_true, if_false, Nat.zero_add, truth_bl, fTuple_lst, fTuple_tup, this]⟩) fun _ => rfl
      rw [filter_yes] at this
      exact this
    have m3 := fAll_f (fun K => S.any fun x => decide (x ∈ K)) Ks (h' ++ [.lst (acc.map tN)])
    have m4 := fAny_f (fun T : List Nat => T.all fun x => decide (x ∈ S)) acc (h' ++ [.lst (acc.map tN)])
    have m5 := app_tN h' acc S hacc
    simp only [fnM, env0, sSeq, sSet, sRet, sRetN, sIf, sExpr, sNil, onR, eVar, eC, eOp, eAnd, eOr, eNot, eNeg, eIf, bAnd, bOr, bNot, bOp, bTru, asB, eChain, eCall, eFn, eFnD, eFnK, aCons, aNil, R.bind, List.length_cons, List.length_nil, List.replicate, List.map_cons, List.map_nil, List.cons_append, List.nil_append, List.getElem?_cons_zero, List.getElem?_cons_succ, List.set_cons_zero, List.set_cons_succ, wipeE, tgN, truth, bYes, pl_int, pl_bl, pl_non, pl_str, pl_tup, pl_lst, Nat.reduceAdd, Nat.reduceSub, Nat.reduceLT, if_true, Bool.true_and, Bool.and_true, Bool.not_true, Bool.not_false, Bool.false_eq_true, if_false, Nat.zero_add, truth_bl, fTuple_lst, fTuple_tup, m1, m2, m3, m4]
    unfold hitF
    cases (Ks.all fun K => S.any fun x => decide (x ∈ K)) with
    | false => simp
    | true =>
      simp only [Bool.true_and, if_true]
      cases (acc.any fun T => T.all fun x => decide (x ∈ S)) with
      | true => simp
      | false => simp only [Bool.not_false, if_true, eMt, fnM, env0, sSeq, sSet, sRet, sRetN, sIf, sExpr, sNil, onR, eVar, eC, eOp, eAnd, eOr, eNot, eNeg, eIf, bAnd, bOr, bNot, bOp, bTru, asB, eChain, eCall, eFn, eFnD, eFnK, aCons, aNil, R.bind, List.length_cons, List.length_nil, List.replicate, List.map_cons, List.map_nil, List.cons_append, List.nil_append, List.getElem?_cons_zero, List.getElem?_cons_succ, List.set_cons_zero, List.set_cons_succ, wipeE, tgN, truth, bYes, pl_int, pl_bl, pl_non, pl_str, pl_tup, pl_lst, Nat.reduceAdd, Nat.reduceSub, Nat.reduceLT, if_true, Bool.true_and, Bool.and_true, Bool.not_true, Bool.not_false, Bool.false_eq_true, if_false, Nat.zero_add, truth_bl, fTuple_lst, fTuple_tup, asL_c, m5]) (xs := subs n) (fun S hS => mem_subs.mp hS) (env := [some d, some (nI n), some (.ref h.length), some (.ref h'.length), x, y, none, none]) ⟨_, rfl⟩ (subs_len hn)
  obtain ⟨env, ⟨x4, rfl⟩, loop⟩ := loop
  have it2 : (iAny (eFn 2 F_lot_list (aCons (eVar 1) (aCons (eVar 1) aNil)))) [some d, some (nI n), some (.ref h.length), some (.ref h'.length), x, y, none, none] (h' ++ [.lst []]) = .ok ⟨(subs n).map tN, []⟩ (h' ++ [.lst []]) := iAny_e (d := lT (subs n)) (by simp only [fnM, env0, sSeq, sSet, sRet, sRetN, sIf, sExpr, sNil, onR, eVar, eC, eOp, eAnd, eOr, eNot, eNeg, eIf, bAnd, bOr, bNot, bOp, bTru, asB, eChain, eCall, eFn, eFnD, eFnK, aCons, aNil, R.bind, List.length_cons, List.length_nil, List.replicate, List.map_cons, List.map_nil, List.cons_append, List.nil_append, List.getElem?_cons_zero, List.getElem?_cons_succ, List.set_cons_zero, List.set_cons_succ, wipeE, tgN, truth, bYes, pl_int, pl_bl, pl_non, pl_str, pl_tup, pl_lst, Nat.reduceAdd, Nat.reduceSub, Nat.reduceLT, if_true, Bool.true_and, Bool.and_true, Bool.not_true, Bool.not_false, Bool.false_eq_true, if_false, Nat.zero_add, truth_bl, fTuple_lst, fTuple_tup, e4]) (.inr rfl)
  simp only [hitB] at e2
  simp only [F_hitting, m_hitting, fnM, env0, sSeq, sSet, sRet, sRetN, sIf, sExpr, sNil, onR, eVar, eC, eOp, eAnd, eOr, eNot, eNeg, eIf, bAnd, bOr, bNot, bOp, bTru, asB, eChain, eCall, eFn, eFnD, eFnK, aCons, aNil, R.bind, List.length_cons, List.length_nil, List.replicate, List.map_cons, List.map_nil, List.cons_append, List.nil_append, List.getElem?_cons_zero, List.getElem?_cons_succ, List.set_cons_zero, List.set_cons_succ, wipeE, tgN, truth, bYes, pl_int, pl_bl, pl_non, pl_str, pl_tup, pl_lst, Nat.reduceAdd, Nat.reduceSub, Nat.reduceLT, if_true, Bool.true_and, Bool.and_true, Bool.not_true, Bool.not_false, Bool.false_eq_true, if_false, Nat.zero_add, truth_bl, fTuple_lst, fTuple_tup, e0, e1, e6', sFor, it, Option.isSome_some, e2, e7, it2, loop, asS_c, fTuple]
  rw [finR_nr rfl]
  congr 1
  rw [← hh, List.append_assoc, List.take_left]
theorem s_hit_nine (d : D) (h : Hpp) : F_hitting [d, .int 9] h = .exc 1 [("name", .str "many")] h := by
  have e1 := s_check_nine h
  simp only [F_hitting, m_hitting, fnM, env0, sSeq, sSet, sRet, sRetN, sIf, sExpr, sNil, onR, eVar, eC, eOp, eAnd, eOr, eNot, eNeg, eIf, bAnd, bOr, bNot, bOp, bTru, asB, eChain, eCall, eFn, eFnD, eFnK, aCons, aNil, R.bind, List.length_cons, List.length_nil, List.replicate, List.map_cons, List.map_nil, List.cons_append, List.nil_append, List.getElem?_cons_zero, List.getElem?_cons_succ, List.set_cons_zero, List.set_cons_succ, wipeE, tgN, truth, bYes, pl_int, pl_bl, pl_non, pl_str, pl_tup, pl_lst, Nat.reduceAdd, Nat.reduceSub, Nat.reduceLT, if_true, Bool.true_and, Bool.and_true, Bool.not_true, Bool.not_false, Bool.false_eq_true, if_false, Nat.zero_add, truth_bl, fTuple_lst, fTuple_tup, e1, List.take_length]
theorem s_hit_none {n : Nat} (hn : n ≤ 8) {d : D} (e : rowI d = none) (hp : plain d = true) (h : Hpp) : F_hitting [d, nI n] h = .exc 3 [("place", .int (-1))] h := by
  have e0 := fun h => s_check_many hn h
  have e1 := fun h => s_is_row d h hp
  rw [rowI_isRow, e] at e1
  simp [F_hitting, m_hitting, fnM, env0, sSeq, sSet, sRet, sRetN, sIf, sExpr, sNil, onR, eVar, eC, eOp, eAnd, eOr, eNot, eNeg, eIf, bAnd, bOr, bNot, bOp, bTru, asB, eChain, eCall, eFn, eFnD, eFnK, aCons, aNil, R.bind, List.length_cons, List.length_nil, List.replicate, List.map_cons, List.map_nil, List.cons_append, List.nil_append, List.getElem?_cons_zero, List.getElem?_cons_succ, List.set_cons_zero, List.set_cons_succ, wipeE, tgN, truth, bYes, pl_int, pl_bl, pl_non, pl_str, pl_tup, pl_lst, Nat.reduceAdd, Nat.reduceSub, Nat.reduceLT, if_true, Bool.true_and, Bool.and_true, Bool.not_true, Bool.not_false, Bool.false_eq_true, if_false, Nat.zero_add, truth_bl, fTuple_lst, fTuple_tup, e0, e1, sRaise, D.isRef]
theorem s_hit_exc {n : Nat} (hn : n ≤ 8) {d b x : D} {gs : List (D × List Nat)} {rest : List D} (g1 : rowI d = some (gs.map (·.1) ++ b :: rest)) (g2 : plain d = true) (g3 : ∀ p ∈ gs, GR n p.1 p.2) (g4 : gs.length < 100000) (hb : ∀ h, F_places_of [b, nI n] h = .exc 3 [("place", x)] h) (h : Hpp) : F_hitting [d, nI n] h = .exc 3 [("place", nI gs.length)] h := by
  have e0 := fun h => s_check_many hn h
  have e1 := fun h => s_is_row d h g2
  rw [rowI_isRow, g1] at e1
  obtain ⟨x', y', e2⟩ := hit_loop d h (b :: rest) gs [] 0 none none g3 (by simpa using g4)
  rw [Nat.zero_add, enF, forGo, if_pos (srcOk_nil _)] at e2
  simp only [List.map_nil, List.nil_append] at e2
  have it := iEnu_at (i := 0) (env := [some d, some (nI n), some (.ref h.length), none, none, none, none, none]) (h := h ++ [.lst []]) rfl (rowI_some g1)
  have e6' : eLst true aNil [some d, some (nI n), none, none, none, none, none, none] h = .ok (.ref h.length) (h ++ [.lst []]) := rfl
  have tg : tgT [5, 4] (.tup [nI gs.length, b]) [some d, some (nI n), some (.ref h.length), none, x', y', none, none] = some [some d, some (nI n), some (.ref h.length), none, some b, some (nI gs.length), none, none] := by simp [tgT, tgs]
  have st : hitB [some d, some (nI n), some (.ref h.length), none, some b, some (nI gs.length), none, none] (h ++ [.lst ((gs.map fun p => p.2).map tN)]) = .exc 3 [("place", nI gs.length)] [some d, some (nI n), some (.ref h.length), none, some b, some (nI gs.length), none, none] (h ++ [.lst ((gs.map fun p => p.2).map tN)]) := by
    simp [hitB, sTryOnly, eMt, fnM, env0, sSeq, sSet, sRet, sRetN, sIf, sExpr, sNil, onR, eVar, eC, eOp, eAnd, eOr, eNot, eNeg, eIf, bAnd, bOr, bNot, bOp, bTru, asB, eChain, eCall, eFn, eFnD, eFnK, aCons, aNil, R.bind, List.length_cons, List.length_nil, List.replicate, List.map_cons, List.map_nil, List.cons_append, List.nil_append, List.getElem?_cons_zero, List.getElem?_cons_succ, List.set_cons_zero, List.set_cons_succ, wipeE, tgN, truth, bYes, pl_int, pl_bl, pl_non, pl_str, pl_tup, pl_lst, Nat.reduceAdd, Nat.reduceSub, Nat.reduceLT, if_true, Bool.true_and, Bool.and_true, Bool.not_true, Bool.not_false, Bool.false_eq_true, if_false, Nat.zero_add, truth_bl, fTuple_lst, fTuple_tup, hb, asL_c, sRaise, D.isRef]
  simp only [tg, st] at e2
  simp only [hitB] at e2
  simp only [F_hitting, m_hitting, fnM, env0, sSeq, sSet, sRet, sRetN, sIf, sExpr, sNil, onR, eVar, eC, eOp, eAnd, eOr, eNot, eNeg, eIf, bAnd, bOr, bNot, bOp, bTru, asB, eChain, eCall, eFn, eFnD, eFnK, aCons, aNil, R.bind, List.length_cons, List.length_nil, List.replicate, List.map_cons, List.map_nil, List.cons_append, List.nil_append, List.getElem?_cons_zero, List.getElem?_cons_succ, List.set_cons_zero, List.set_cons_succ, wipeE, tgN, truth, bYes, pl_int, pl_bl, pl_non, pl_str, pl_tup, pl_lst, Nat.reduceAdd, Nat.reduceSub, Nat.reduceLT, if_true, Bool.true_and, Bool.and_true, Bool.not_true, Bool.not_false, Bool.false_eq_true, if_false, Nat.zero_add, truth_bl, fTuple_lst, fTuple_tup, e0, e1, e6', sFor, it, Option.isSome_some, e2, c_take]
theorem GB.row {w : Nat} {d : D} {lots : List (List Nat)} (g : GB w d lots) : ∃ l, rowI d = some l ∧ l.length = lots.length := by
  obtain ⟨gs, e, _, _, _, rfl⟩ := g
  exact ⟨_, e, by simp⟩
theorem fLen_row {d : D} {l : List D} (e : rowI d = some l) (h : Hpp) : fLen [d] h = .ok (nI l.length) h := by
  rcases rowI_some e with z | z <;> subst z <;> simp [fLen, asS, asL]
theorem fLen_GB {w : Nat} {d : D} {lots : List (List Nat)} (g : GB w d lots) (h : Hpp) : fLen [d] h = .ok (nI lots.length) h := by
  obtain ⟨l, e, e2⟩ := g.row
  rw [fLen_row e, e2]
def inAllL (n : Nat) (Rs : List (List Nat)) : List Nat := (List.range n).filter fun x => Rs.all fun R => decide (x ∈ R)
def inNoL (n : Nat) (Rs : List (List Nat)) : List Nat := (List.range n).filter fun x => !Rs.any fun R => decide (x ∈ R)
theorem s_in_every {w : Nat} (h1 : 1 ≤ w) (h2 : w ≤ 12) {d lotd : D} {lots : List (List Nat)} {L : List Nat} (g : GB w d lots) (gl : GR w lotd L) (hl : L.length < w) (h : Hpp) : F_in_every_rest [d, nI w, lotd] h = .ok (tN (inAllL lots.length (restsL lots.length (cB w lots L)))) h := by
  have hz := g.len
  have e1 := s_rests h1 h2 g gl hl h
  have e2 := fLen_GB g h
  generalize restsL lots.length (cB w lots L) = Rs at *
  have e3 : ∀ (x : Nat) (h : Hpp), (eLc false (iAny (eVar 3)) (tgN 5) bYes (eOp (oIn false) (eVar 4) (eVar 5)) [5]) [some d, some (nI w), some lotd, some (tTs Rs), some (nI x), none] h = .ok (.lst (Rs.map fun R => .bl (decide (x ∈ R)))) h := fun x h =>
    lc_map tN Rs _ (iAny_tTs (i := 3) rfl) (fun T hT c => ⟨[some d, some (nI w), some lotd, some (tTs Rs), some (nI x), some (tN T)], rfl, by simp only [fnM, env0, sSeq, sSet, sRet, sRetN, sIf, sExpr, sNil, onR, eVar, eC, eOp, eAnd, eOr, eNot, eNeg, eIf, bAnd, bOr, bNot, bOp, bTru, asB, eChain, eCall, eFn, eFnD, eFnK, aCons, aNil, R.bind, List.length_cons, List.length_nil, List.replicate, List.map_cons, List.map_nil, List.cons_append, List.nil_append, List.getElem?_cons_zero, List.getElem?_cons_succ, List.set_cons_zero, List.set_cons_succ, wipeE, tgN, truth, bYes, pl_int, pl_bl, pl_non, pl_str, pl_tup, pl_lst, Nat.reduceAdd, Nat.reduceSub, Nat.reduceLT, if_true, Bool.true_and, Bool.and_true, Bool.not_true, Bool.not_false, Bool.false_eq_true, if_false, Nat.zero_add, truth_bl, fTuple_lst, fTuple_tup, oIn_tN]⟩) fun _ => rfl
  have e4 : (eLc false (iRg1 (aCons (eCall fLen (aCons (eVar 0) aNil)) aNil)) (tgN 4) (bTru (eCall fAll (aCons (eLc false (iAny (eVar 3)) (tgN 5) bYes (eOp (oIn false) (eVar 4) (eVar 5)) [5]) aNil))) (eVar 4) [4]) [some d, some (nI w), some lotd, some (tTs Rs), none, none] h = .ok (lN (inAllL lots.length Rs)) h :=
    lc_fil nI (List.range lots.length) _ nI (iRg1_e (by omega) (by simp only [fnM, env0, sSeq, sSet, sRet, sRetN, sIf, sExpr, sNil, onR, eVar, eC, eOp, eAnd, eOr, eNot, eNeg, eIf, bAnd, bOr, bNot, bOp, bTru, asB, eChain, eCall, eFn, eFnD, eFnK, aCons, aNil, R.bind, List.length_cons, List.length_nil, List.replicate, List.map_cons, List.map_nil, List.cons_append, List.nil_append, List.getElem?_cons_zero, List.getElem?_cons_succ, List.set_cons_zero, List.set_cons_succ, wipeE, tgN, truth, bYes, pl_int, pl_bl, pl_non, pl_str, pl_tup, pl_lst, Nat.reduceAdd, Nat.reduceSub, Nat.reduceLT, if_true, Bool.true_and, Bool.and_true, Bool.not_true, Bool.not_false, Bool.false_eq_true, if_false, Nat.zero_add, truth_bl, fTuple_lst, fTuple_tup, e2])) (fun x hx c => ⟨[some d, some (nI w), some lotd, some (tTs Rs), some (nI x), none], rfl, by
      have e5 := e3 x (h ++ [c])
      have e6 := fAll_f (fun R : List Nat => decide (x ∈ R)) Rs (h ++ [c])
      simp only [fnM, env0, sSeq, sSet, sRet, sRetN, sIf, sExpr, sNil, onR, eVar, eC, eOp, eAnd, eOr, eNot, eNeg, eIf, bAnd, bOr, bNot, bOp, bTru, asB, eChain, eCall, eFn, eFnD, eFnK, aCons, aNil, R.bind, List.length_cons, List.length_nil, List.replicate, List.map_cons, List.map_nil, List.cons_append, List.nil_append, List.getElem?_cons_zero, List.getElem?_cons_succ, List.set_cons_zero, List.set_cons_succ, wipeE, tgN, truth, bYes, pl_int, pl_bl, pl_non, pl_str, pl_tup, pl_lst, Nat.reduceAdd, Nat.reduceSub, Nat.reduceLT, if_true, Bool.true_and, Bool.and_true, Bool.not_true, Bool.not_false, Bool.false_eq_true, if_false, Nat.zero_add, truth_bl, fTuple_lst, fTuple_tup, e5, e6], rfl⟩) fun _ => rfl
  have e7 : fTuple [lN (inAllL lots.length Rs)] h = .ok (tN (inAllL lots.length Rs)) h := rfl
  simp only [F_in_every_rest, m_in_every_rest, fnM, env0, sSeq, sSet, sRet, sRetN, sIf, sExpr, sNil, onR, eVar, eC, eOp, eAnd, eOr, eNot, eNeg, eIf, bAnd, bOr, bNot, bOp, bTru, asB, eChain, eCall, eFn, eFnD, eFnK, aCons, aNil, R.bind, List.length_cons, List.length_nil, List.replicate, List.map_cons, List.map_nil, List.cons_append, List.nil_append, List.getElem?_cons_zero, List.getElem?_cons_succ, List.set_cons_zero, List.set_cons_succ, wipeE, tgN, truth, bYes, pl_int, pl_bl, pl_non, pl_str, pl_tup, pl_lst, Nat.reduceAdd, Nat.reduceSub, Nat.reduceLT, if_true, Bool.true_and, Bool.and_true, Bool.not_true, Bool.not_false, Bool.false_eq_true, if_false, Nat.zero_add, truth_bl, fTuple_lst, fTuple_tup, e1, e4, e7]
  exact fin_same rfl
theorem s_in_no {w : Nat} (h1 : 1 ≤ w) (h2 : w ≤ 12) {d lotd : D} {lots : List (List Nat)} {L : List Nat} (g : GB w d lots) (gl : GR w lotd L) (hl : L.length < w) (h : Hpp) : F_in_no_kernel [d, nI w, lotd] h = .ok (tN (inNoL lots.length (kernL lots.length (cB w lots L)))) h := by
  have hz := g.len
  have e1 := s_kernels h1 h2 g gl hl h
  have e2 := fLen_GB g h
  generalize kernL lots.length (cB w lots L) = Rs at *
  have e3 : ∀ (x : Nat) (h : Hpp), (eLc false (iAny (eVar 3)) (tgN 5) bYes (eOp (oIn false) (eVar 4) (eVar 5)) [5]) [some d, some (nI w), some lotd, some (tTs Rs), some (nI x), none] h = .ok (.lst (Rs.map fun R => .bl (decide (x ∈ R)))) h := fun x h =>
    lc_map tN Rs _ (iAny_tTs (i := 3) rfl) (fun T hT c => ⟨[some d, some (nI w), some lotd, some (tTs Rs), some (nI x), some (tN T)], rfl, by simp only [fnM, env0, sSeq, sSet, sRet, sRetN, sIf, sExpr, sNil, onR, eVar, eC, eOp, eAnd, eOr, eNot, eNeg, eIf, bAnd, bOr, bNot, bOp, bTru, asB, eChain, eCall, eFn, eFnD, eFnK, aCons, aNil, R.bind, List.length_cons, List.length_nil, List.replicate, List.map_cons, List.map_nil, List.cons_append, List.nil_append, List.getElem?_cons_zero, List.getElem?_cons_succ, List.set_cons_zero, List.set_cons_succ, wipeE, tgN, truth, bYes, pl_int, pl_bl, pl_non, pl_str, pl_tup, pl_lst, Nat.reduceAdd, Nat.reduceSub, Nat.reduceLT, if_true, Bool.true_and, Bool.and_true, Bool.not_true, Bool.not_false, Bool.false_eq_true, if_false, Nat.zero_add, truth_bl, fTuple_lst, fTuple_tup, oIn_tN]⟩) fun _ => rfl
  have e4 : (eLc false (iRg1 (aCons (eCall fLen (aCons (eVar 0) aNil)) aNil)) (tgN 4) (bNot (bTru (eCall fAny (aCons (eLc false (iAny (eVar 3)) (tgN 5) bYes (eOp (oIn false) (eVar 4) (eVar 5)) [5]) aNil)))) (eVar 4) [4]) [some d, some (nI w), some lotd, some (tTs Rs), none, none] h = .ok (lN (inNoL lots.length Rs)) h :=
    lc_fil nI (List.range lots.length) _ nI (iRg1_e (by omega) (by simp only [fnM, env0, sSeq, sSet, sRet, sRetN, sIf, sExpr, sNil, onR, eVar, eC, eOp, eAnd, eOr, eNot, eNeg, eIf, bAnd, bOr, bNot, bOp, bTru, asB, eChain, eCall, eFn, eFnD, eFnK, aCons, aNil, R.bind, List.length_cons, List.length_nil, List.replicate, List.map_cons, List.map_nil, List.cons_append, List.nil_append, List.getElem?_cons_zero, List.getElem?_cons_succ, List.set_cons_zero, List.set_cons_succ, wipeE, tgN, truth, bYes, pl_int, pl_bl, pl_non, pl_str, pl_tup, pl_lst, Nat.reduceAdd, Nat.reduceSub, Nat.reduceLT, if_true, Bool.true_and, Bool.and_true, Bool.not_true, Bool.not_false, Bool.false_eq_true, if_false, Nat.zero_add, truth_bl, fTuple_lst, fTuple_tup, e2])) (fun x hx c => ⟨[some d, some (nI w), some lotd, some (tTs Rs), some (nI x), none], rfl, by
      have e5 := e3 x (h ++ [c])
      have e6 := fAny_f (fun R : List Nat => decide (x ∈ R)) Rs (h ++ [c])
      simp only [fnM, env0, sSeq, sSet, sRet, sRetN, sIf, sExpr, sNil, onR, eVar, eC, eOp, eAnd, eOr, eNot, eNeg, eIf, bAnd, bOr, bNot, bOp, bTru, asB, eChain, eCall, eFn, eFnD, eFnK, aCons, aNil, R.bind, List.length_cons, List.length_nil, List.replicate, List.map_cons, List.map_nil, List.cons_append, List.nil_append, List.getElem?_cons_zero, List.getElem?_cons_succ, List.set_cons_zero, List.set_cons_succ, wipeE, tgN, truth, bYes, pl_int, pl_bl, pl_non, pl_str, pl_tup, pl_lst, Nat.reduceAdd, Nat.reduceSub, Nat.reduceLT, if_true, Bool.true_and, Bool.and_true, Bool.not_true, Bool.not_false, Bool.false_eq_true, if_false, Nat.zero_add, truth_bl, fTuple_lst, fTuple_tup, e5, e6], rfl⟩) fun _ => rfl
  have e7 : fTuple [lN (inNoL lots.length Rs)] h = .ok (tN (inNoL lots.length Rs)) h := rfl
  simp only [F_in_no_kernel, m_in_no_kernel, fnM, env0, sSeq, sSet, sRet, sRetN, sIf, sExpr, sNil, onR, eVar, eC, eOp, eAnd, eOr, eNot, eNeg, eIf, bAnd, bOr, bNot, bOp, bTru, asB, eChain, eCall, eFn, eFnD, eFnK, aCons, aNil, R.bind, List.length_cons, List.length_nil, List.replicate, List.map_cons, List.map_nil, List.cons_append, List.nil_append, List.getElem?_cons_zero, List.getElem?_cons_succ, List.set_cons_zero, List.set_cons_succ, wipeE, tgN, truth, bYes, pl_int, pl_bl, pl_non, pl_str, pl_tup, pl_lst, Nat.reduceAdd, Nat.reduceSub, Nat.reduceLT, if_true, Bool.true_and, Bool.and_true, Bool.not_true, Bool.not_false, Bool.false_eq_true, if_false, Nat.zero_add, truth_bl, fTuple_lst, fTuple_tup, e1, e4, e7]
  exact fin_same rfl
theorem s_is_rest {w : Nat} (h1 : 1 ≤ w) (h2 : w ≤ 12) {d lotd sub : D} {lots : List (List Nat)} {L S : List Nat} (g : GB w d lots) (gl : GR w lotd L) (gs : GR lots.length sub S) (hl : L.length < w) (h : Hpp) : F_is_rest [d, nI w, lotd, sub] h = .ok (.bl (decide (S ∈ restsL lots.length (cB w lots L)))) h := by
  have e1 := s_rests h1 h2 g gl hl h
  have e2 := fLen_GB g h
  have e3 := s_places gs h
  have e4 := oIn_tT h false S (restsL lots.length (cB w lots L))
  simp only [F_is_rest, m_is_rest, fnM, env0, sSeq, sSet, sRet, sRetN, sIf, sExpr, sNil, onR, eVar, eC, eOp, eAnd, eOr, eNot, eNeg, eIf, bAnd, bOr, bNot, bOp, bTru, asB, eChain, eCall, eFn, eFnD, eFnK, aCons, aNil, R.bind, List.length_cons, List.length_nil, List.replicate, List.map_cons, List.map_nil, List.cons_append, List.nil_append, List.getElem?_cons_zero, List.getElem?_cons_succ, List.set_cons_zero, List.set_cons_succ, wipeE, tgN, truth, bYes, pl_int, pl_bl, pl_non, pl_str, pl_tup, pl_lst, Nat.reduceAdd, Nat.reduceSub, Nat.reduceLT, if_true, Bool.true_and, Bool.and_true, Bool.not_true, Bool.not_false, Bool.false_eq_true, if_false, Nat.zero_add, truth_bl, fTuple_lst, fTuple_tup, e1, e2, e3, e4]
  exact fin_same rfl
theorem s_in_every_all {w : Nat} (h1 : 1 ≤ w) (h2 : w ≤ 12) {d lotd : D} {lots : List (List Nat)} {L : List Nat} (g : GB w d lots) (gl : GR w lotd L) (hl : L.length = w) (h : Hpp) : F_in_every_rest [d, nI w, lotd] h = .exc 2 [("place", .int (-1))] h := by
  have e1 := s_rests_all h1 h2 g gl hl h
  simp only [F_in_every_rest, m_in_every_rest, fnM, env0, sSeq, sSet, sRet, sRetN, sIf, sExpr, sNil, onR, eVar, eC, eOp, eAnd, eOr, eNot, eNeg, eIf, bAnd, bOr, bNot, bOp, bTru, asB, eChain, eCall, eFn, eFnD, eFnK, aCons, aNil, R.bind, List.length_cons, List.length_nil, List.replicate, List.map_cons, List.map_nil, List.cons_append, List.nil_append, List.getElem?_cons_zero, List.getElem?_cons_succ, List.set_cons_zero, List.set_cons_succ, wipeE, tgN, truth, bYes, pl_int, pl_bl, pl_non, pl_str, pl_tup, pl_lst, Nat.reduceAdd, Nat.reduceSub, Nat.reduceLT, if_true, Bool.true_and, Bool.and_true, Bool.not_true, Bool.not_false, Bool.false_eq_true, if_false, Nat.zero_add, truth_bl, fTuple_lst, fTuple_tup, e1, List.take_length]
theorem s_in_no_all {w : Nat} (h1 : 1 ≤ w) (h2 : w ≤ 12) {d lotd : D} {lots : List (List Nat)} {L : List Nat} (g : GB w d lots) (gl : GR w lotd L) (hl : L.length = w) (h : Hpp) : F_in_no_kernel [d, nI w, lotd] h = .exc 2 [("place", .int (-1))] h := by
  have e1 := s_kernels_all h1 h2 g gl hl h
  simp only [F_in_no_kernel, m_in_no_kernel, fnM, env0, sSeq, sSet, sRet, sRetN, sIf, sExpr, sNil, onR, eVar, eC, eOp, eAnd, eOr, eNot, eNeg, eIf, bAnd, bOr, bNot, bOp, bTru, asB, eChain, eCall, eFn, eFnD, eFnK, aCons, aNil, R.bind, List.length_cons, List.length_nil, List.replicate, List.map_cons, List.map_nil, List.cons_append, List.nil_append, List.getElem?_cons_zero, List.getElem?_cons_succ, List.set_cons_zero, List.set_cons_succ, wipeE, tgN, truth, bYes, pl_int, pl_bl, pl_non, pl_str, pl_tup, pl_lst, Nat.reduceAdd, Nat.reduceSub, Nat.reduceLT, if_true, Bool.true_and, Bool.and_true, Bool.not_true, Bool.not_false, Bool.false_eq_true, if_false, Nat.zero_add, truth_bl, fTuple_lst, fTuple_tup, e1, List.take_length]
theorem s_is_rest_all {w : Nat} (h1 : 1 ≤ w) (h2 : w ≤ 12) {d lotd sub : D} {lots : List (List Nat)} {L : List Nat} (g : GB w d lots) (gl : GR w lotd L) (hl : L.length = w) (h : Hpp) : F_is_rest [d, nI w, lotd, sub] h = .exc 2 [("place", .int (-1))] h := by
  have e1 := s_rests_all h1 h2 g gl hl h
  simp only [F_is_rest, m_is_rest, fnM, env0, sSeq, sSet, sRet, sRetN, sIf, sExpr, sNil, onR, eVar, eC, eOp, eAnd, eOr, eNot, eNeg, eIf, bAnd, bOr, bNot, bOp, bTru, asB, eChain, eCall, eFn, eFnD, eFnK, aCons, aNil, R.bind, List.length_cons, List.length_nil, List.replicate, List.map_cons, List.map_nil, List.cons_append, List.nil_append, List.getElem?_cons_zero, List.getElem?_cons_succ, List.set_cons_zero, List.set_cons_succ, wipeE, tgN, truth, bYes, pl_int, pl_bl, pl_non, pl_str, pl_tup, pl_lst, Nat.reduceAdd, Nat.reduceSub, Nat.reduceLT, if_true, Bool.true_and, Bool.and_true, Bool.not_true, Bool.not_false, Bool.false_eq_true, if_false, Nat.zero_add, truth_bl, fTuple_lst, fTuple_tup, e1, List.take_length]
end Law
end
end
section
set_option Elab.async false
set_option linter.all false
set_option maxRecDepth 100000
set_option maxHeartbeats 400000
noncomputable section
namespace Law
open Nb
theorem len_zero {α : Type} (l : List α) : decide (((l.length : Nat) : Int) = 0) = l.isEmpty := by cases l <;> simp; omega
theorem fil_empty {α : Type} (p : α → Bool) (l : List α) : (l.filter p).isEmpty = l.all fun x => !p x := by
  induction l with
  | nil => rfl
  | cons a l ih =>
    rw [List.filter_cons, List.all_cons, ← ih]
    cases p a <;> simp
theorem l_common (a b : List Nat) (h : Hpp) : F__law_common [tN a, tN b] h = .ok (tN (a.filter fun x => decide (x ∈ b))) h := by
  have e : (eLc false (iAny (eVar 0)) (tgN 2) (bOp (oIn false) (eVar 2) (eVar 1)) (eVar 2) [2]) [some (tN a), some (tN b), none] h = .ok (lN (a.filter fun x => decide (x ∈ b))) h :=
    lc_fil nI a _ nI (iAny_tN (i := 0) rfl) (fun x _ c => ⟨[some (tN a), some (tN b), some (nI x)], rfl, by simp only [fnM, env0, sSeq, sSet, sRet, sRetN, sIf, sExpr, sNil, onR, eVar, eC, eOp, eAnd, eOr, eNot, eNeg, eIf, bAnd, bOr, bNot, bOp, bTru, asB, eChain, eCall, eFn, eFnD, eFnK, aCons, aNil, R.bind, List.length_cons, List.length_nil, List.replicate, List.map_cons, List.map_nil, List.cons_append, List.nil_append, List.getElem?_cons_zero, List.getElem?_cons_succ, List.set_cons_zero, List.set_cons_succ, wipeE, tgN, truth, bYes, pl_int, pl_bl, pl_non, pl_str, pl_tup, pl_lst, Nat.reduceAdd, Nat.reduceSub, Nat.reduceLT, if_true, Bool.true_and, Bool.and_true, Bool.not_true, Bool.not_false, Bool.false_eq_true, if_false, Nat.zero_add, truth_bl, fTuple_lst, fTuple_tup, oIn_tN], rfl⟩) fun _ => rfl
  have e2 : fTuple [lN (a.filter fun x => decide (x ∈ b))] h = .ok (tN (a.filter fun x => decide (x ∈ b))) h := rfl
  simp only [F__law_common, m__law_common, fnM, env0, sSeq, sSet, sRet, sRetN, sIf, sExpr, sNil, onR, eVar, eC, eOp, eAnd, eOr, eNot, eNeg, eIf, bAnd, bOr, bNot, bOp, bTru, asB, eChain, eCall, eFn, eFnD, eFnK, aCons, aNil, R.bind, List.length_cons, List.length_nil, List.replicate, List.map_cons, List.map_nil, List.cons_append, List.nil_append, List.getElem?_cons_zero, List.getElem?_cons_succ, List.set_cons_zero, List.set_cons_succ, wipeE, tgN, truth, bYes, pl_int, pl_bl, pl_non, pl_str, pl_tup, pl_lst, Nat.reduceAdd, Nat.reduceSub, Nat.reduceLT, if_true, Bool.true_and, Bool.and_true, Bool.not_true, Bool.not_false, Bool.false_eq_true, if_false, Nat.zero_add, truth_bl, fTuple_lst, fTuple_tup, e, e2]
  exact fin_same rfl
theorem l_inside (a b : List Nat) (h : Hpp) : F__law_inside [tN a, tN b] h = .ok (.bl (a.all fun x => decide (x ∈ b))) h := by
  have e : (eLc false (iAny (eVar 0)) (tgN 2) (bOp (oIn true) (eVar 2) (eVar 1)) (eVar 2) [2]) [some (tN a), some (tN b), none] h = .ok (lN (a.filter fun x => !decide (x ∈ b))) h :=
    lc_fil nI a _ nI (iAny_tN (i := 0) rfl) (fun x _ c => ⟨[some (tN a), some (tN b), some (nI x)], rfl, by simp only [fnM, env0, sSeq, sSet, sRet, sRetN, sIf, sExpr, sNil, onR, eVar, eC, eOp, eAnd, eOr, eNot, eNeg, eIf, bAnd, bOr, bNot, bOp, bTru, asB, eChain, eCall, eFn, eFnD, eFnK, aCons, aNil, R.bind, List.length_cons, List.length_nil, List.replicate, List.map_cons, List.map_nil, List.cons_append, List.nil_append, List.getElem?_cons_zero, List.getElem?_cons_succ, List.set_cons_zero, List.set_cons_succ, wipeE, tgN, truth, bYes, pl_int, pl_bl, pl_non, pl_str, pl_tup, pl_lst, Nat.reduceAdd, Nat.reduceSub, Nat.reduceLT, if_true, Bool.true_and, Bool.and_true, Bool.not_true, Bool.not_false, Bool.false_eq_true, if_false, Nat.zero_add, truth_bl, fTuple_lst, fTuple_tup, oIn_tN], rfl⟩) fun _ => rfl
  have e2 := fLen_lN (a.filter fun x => !decide (x ∈ b)) h
  simp only [F__law_inside, m__law_inside, fnM, env0, sSeq, sSet, sRet, sRetN, sIf, sExpr, sNil, onR, eVar, eC, eOp, eAnd, eOr, eNot, eNeg, eIf, bAnd, bOr, bNot, bOp, bTru, asB, eChain, eCall, eFn, eFnD, eFnK, aCons, aNil, R.bind, List.length_cons, List.length_nil, List.replicate, List.map_cons, List.map_nil, List.cons_append, List.nil_append, List.getElem?_cons_zero, List.getElem?_cons_succ, List.set_cons_zero, List.set_cons_succ, wipeE, tgN, truth, bYes, pl_int, pl_bl, pl_non, pl_str, pl_tup, pl_lst, Nat.reduceAdd, Nat.reduceSub, Nat.reduceLT, if_true, Bool.true_and, Bool.and_true, Bool.not_true, Bool.not_false, Bool.false_eq_true, if_false, Nat.zero_add, truth_bl, fTuple_lst, fTuple_tup, e, e2, nI, oEq_int, len_zero, fil_empty, Bool.not_not]
  exact fin_same rfl
theorem l_same (a b : Bool) (h : Hpp) : F__law_same [.bl a, .bl b] h = .ok (.bl (decide (a = b))) h := by
  cases b <;> simp [F__law_same, m__law_same, fnM, env0, sSeq, sSet, sRet, sRetN, sIf, sExpr, sNil, onR, eVar, eC, eOp, eAnd, eOr, eNot, eNeg, eIf, bAnd, bOr, bNot, bOp, bTru, asB, eChain, eCall, eFn, eFnD, eFnK, aCons, aNil, R.bind, List.length_cons, List.length_nil, List.replicate, List.map_cons, List.map_nil, List.cons_append, List.nil_append, List.getElem?_cons_zero, List.getElem?_cons_succ, List.set_cons_zero, List.set_cons_succ, wipeE, tgN, truth, bYes, pl_int, pl_bl, pl_non, pl_str, pl_tup, pl_lst, Nat.reduceAdd, Nat.reduceSub, Nat.reduceLT, if_true, Bool.true_and, Bool.and_true, Bool.not_true, Bool.not_false, Bool.false_eq_true, if_false, Nat.zero_add, truth_bl, fTuple_lst, fTuple_tup, oIs, finR]
theorem l_plus {n : Nat} {S : List Nat} (hS : canon n S) {p : Nat} (hp : p < n) (hn : p ∉ S) (h : Hpp) (hz : n ≤ 1000) : F__law_plus [tN S, tN [p]] h = .ok (tN (can n (S ++ [p]))) h := by
  have e : (eLc false (iAny (eVar 1)) (tgN 2) (bOp (oIn true) (eVar 2) (eVar 0)) (eVar 2) [2]) [some (tN S), some (tN [p]), none] h = .ok (lN [p]) h := by
    have := lc_fil (t := tgN 2) (tt := (bOp (oIn true) (eVar 2) (eVar 0))) (te := (eVar 2)) (vs := [2]) nI [p] (fun x => !decide (x ∈ S)) nI (iAny_tN (i := 1) (env := [some (tN S), some (tN [p]), none]) (h := h) rfl) (fun x _ c => ⟨[some (tN S), some (tN [p]), some (nI x)], rfl, by simp only [fnM, env0, sSeq, sSet, sRet, sRetN, sIf, sExpr, sNil, onR, eVar, eC, eOp, eAnd, eOr, eNot, eNeg, eIf, bAnd, bOr, bNot, bOp, bTru, asB, eChain, eCall, eFn, eFnD, eFnK, aCons, aNil, R.bind, List.length_cons, List.length_nil, List.replicate, List.map_cons, List.map_nil, List.cons_append, List.nil_append, List.getElem?_cons_zero, List.getElem?_cons_succ, List.set_cons_zero, List.set_cons_succ, wipeE, tgN, truth, bYes, pl_int, pl_bl, pl_non, pl_str, pl_tup, pl_lst, Nat.reduceAdd, Nat.reduceSub, Nat.reduceLT, if_true, Bool.true_and, Bool.and_true, Bool.not_true, Bool.not_false, Bool.false_eq_true, if_false, Nat.zero_add, truth_bl, fTuple_lst, fTuple_tup, oIn_tN], rfl⟩) fun _ => rfl
    rw [this, List.filter_cons, if_pos (by simp [hn])]; rfl
  have e1 : fList false [tN S] h = .ok (lN S) h := rfl
  have e2 : oAdd (lN S) (lN [p]) h = .ok (lN (S ++ [p])) h := by
    have hle : (S.map nI).length + ([p].map nI).length ≤ 16777216 := by
      have := canon_length hS
      simp only [List.length_map, List.length_singleton]; omega
    simp only [oAdd, lN, asN, asL]
    rw [if_pos hle, List.map_append]
  have e3 : fSortedI false [lN (S ++ [p])] h = .ok (lN (can n (S ++ [p]))) h := by
    have a : (asL (lN (S ++ [p])) h).bind intsOf = some ((S ++ [p]).map fun (n : Nat) => (n : Int)) := by
      show intsOf _ = _
      exact intsOf_nI _
    have b : sortI ((S ++ [p]).map fun (n : Nat) => (n : Int)) = (can n (S ++ [p])).map fun (n : Nat) => (n : Int) := sort_can (by
      rw [List.nodup_append]
      exact ⟨nodup_of_lt hS.1, by simp, fun a ha b hb z => by
        have : b = p := by simpa using hb
        subst this; subst z; exact hn ha⟩) (fun x hx => by
      rcases List.mem_append.mp hx with m | m
      · exact hS.2 x m
      · have : x = p := by simpa using m
        omega)
    simp only [fSortedI, a, b, map_nI, mkL]; rfl
  have e4 : fTuple [lN (can n (S ++ [p]))] h = .ok (tN (can n (S ++ [p]))) h := rfl
  simp only [F__law_plus, m__law_plus, fnM, env0, sSeq, sSet, sRet, sRetN, sIf, sExpr, sNil, onR, eVar, eC, eOp, eAnd, eOr, eNot, eNeg, eIf, bAnd, bOr, bNot, bOp, bTru, asB, eChain, eCall, eFn, eFnD, eFnK, aCons, aNil, R.bind, List.length_cons, List.length_nil, List.replicate, List.map_cons, List.map_nil, List.cons_append, List.nil_append, List.getElem?_cons_zero, List.getElem?_cons_succ, List.set_cons_zero, List.set_cons_succ, wipeE, tgN, truth, bYes, pl_int, pl_bl, pl_non, pl_str, pl_tup, pl_lst, Nat.reduceAdd, Nat.reduceSub, Nat.reduceLT, if_true, Bool.true_and, Bool.and_true, Bool.not_true, Bool.not_false, Bool.false_eq_true, if_false, Nat.zero_add, truth_bl, fTuple_lst, fTuple_tup, e, e1, e2, e3, e4]
  exact fin_same rfl
abbrev kindB : SM := (sSeq (sIf (bOr (bNot (bTru (eFn 1 F__law_int (aCons (eVar 3) aNil)))) (bOr (bOp (oCmp (fun i j => decide (i ≤ j))) (eVar 3) (eVar 2)) (bOp (oCmp (fun i j => decide (j ≤ i))) (eVar 3) (eVar 1)))) (sRet (eC (.bl false))) sNil)
  (sSet 2 (eVar 3)))
theorem kind_loop (n : Nat) (d : D) (h : Hpp) : ∀ (S : List Nat) (last : Int) (x : Option D), S.Pairwise (· < ·) → (∀ y ∈ S, last < (y : Int) ∧ y < n) →
    ∃ l' x', forGo [] (tgN 3) kindB (S.map nI) [some d, some (nI n), some (.int last), x] h = .nx [some d, some (nI n), l', x'] h
  | [], last, x, _, _ => ⟨_, _, by rw [List.map_nil, forGo, if_pos (srcOk_nil _)]⟩
  | y :: S, last, x, hp, hy => by
    rw [List.pairwise_cons] at hp
    obtain ⟨l', x', ih⟩ := kind_loop n d h S (y : Int) (some (nI y)) hp.2 (fun z hz => ⟨by have := hp.1 z hz; omega, (hy z (List.mem_cons_of_mem _ hz)).2⟩)
    obtain ⟨h1, h2⟩ := hy y List.mem_cons_self
    refine ⟨l', x', ?_⟩
    have e1 := fun h => s_law_int (nI y) h rfl
    have e2 : decide ((y : Int) ≤ last) = false := decide_eq_false (by omega)
    have e3 : decide ((n : Int) ≤ (y : Int)) = false := decide_eq_false (by omega)
    rw [List.map_cons, forGo, if_pos (srcOk_nil _)]
    simp only [nI] at ih e1
    simp only [kindB, fnM, env0, sSeq, sSet, sRet, sRetN, sIf, sExpr, sNil, onR, eVar, eC, eOp, eAnd, eOr, eNot, eNeg, eIf, bAnd, bOr, bNot, bOp, bTru, asB, eChain, eCall, eFn, eFnD, eFnK, aCons, aNil, R.bind, List.length_cons, List.length_nil, List.replicate, List.map_cons, List.map_nil, List.cons_append, List.nil_append, List.getElem?_cons_zero, List.getElem?_cons_succ, List.set_cons_zero, List.set_cons_succ, wipeE, tgN, truth, bYes, pl_int, pl_bl, pl_non, pl_str, pl_tup, pl_lst, Nat.reduceAdd, Nat.reduceSub, Nat.reduceLT, if_true, Bool.true_and, Bool.and_true, Bool.not_true, Bool.not_false, Bool.false_eq_true, if_false, Nat.zero_add, truth_bl, fTuple_lst, fTuple_tup, e1, D.isI, nI, oCmp_int, e2, e3]
    exact ih
theorem l_kind {n : Nat} {S : List Nat} (hS : canon n S) (h : Hpp) : F__law_lot_kind [tN S, nI n] h = .ok (.bl true) h := by
  obtain ⟨_, _, _, _, _, _, _, _, _, _, _, _, k13, _⟩ := kb
  obtain ⟨l', x', e⟩ := kind_loop n (tN S) h S (-1) none hS.1 fun y hy => ⟨by omega, hS.2 y hy⟩
  have it := iAny_tN (i := 0) (env := [some (tN S), some (nI n), some (.int (-1)), none]) (l := S) (h := h) rfl
  have e1 : fIsi [tN S, .ty "tuple"] h = .ok (.bl true) h := by simp [fIsi, tN, tyName, k13]
  simp only [F__law_lot_kind, m__law_lot_kind, fnM, env0, sSeq, sSet, sRet, sRetN, sIf, sExpr, sNil, onR, eVar, eC, eOp, eAnd, eOr, eNot, eNeg, eIf, bAnd, bOr, bNot, bOp, bTru, asB, eChain, eCall, eFn, eFnD, eFnK, aCons, aNil, R.bind, List.length_cons, List.length_nil, List.replicate, List.map_cons, List.map_nil, List.cons_append, List.nil_append, List.getElem?_cons_zero, List.getElem?_cons_succ, List.set_cons_zero, List.set_cons_succ, wipeE, tgN, truth, bYes, pl_int, pl_bl, pl_non, pl_str, pl_tup, pl_lst, Nat.reduceAdd, Nat.reduceSub, Nat.reduceLT, if_true, Bool.true_and, Bool.and_true, Bool.not_true, Bool.not_false, Bool.false_eq_true, if_false, Nat.zero_add, truth_bl, fTuple_lst, fTuple_tup, e1, sFor, it, e]
  exact fin_same rfl
theorem l_are {n : Nat} {A : List (List Nat)} (hA : ∀ S ∈ A, canon n S) (h : Hpp) : F__law_sublists_are [tTs A, lT A, nI n] h = .ok (.bl true) h := by
  obtain ⟨_, _, _, _, _, _, _, _, _, _, _, _, k13, _⟩ := kb
  have e1 : fIsi [tTs A, .ty "tuple"] h = .ok (.bl true) h := by simp [fIsi, tTs, tyName, k13]
  have e2 : fList false [tTs A] h = .ok (lT A) h := rfl
  have e3 : fList false [lT A] h = .ok (lT A) h := rfl
  have e4 : (eLc false (iAny (eVar 0)) (tgN 3) (bNot (bTru (eFn 2 F__law_lot_kind (aCons (eVar 3) (aCons (eVar 2) aNil))))) (eVar 3) [3]) [some (tTs A), some (lT A), some (nI n), none] h = .ok (lT []) h := by
    have := lc_fil (t := tgN 3) (tt := (bNot (bTru (eFn 2 F__law_lot_kind (aCons (eVar 3) (aCons (eVar 2) aNil)))))) (te := (eVar 3)) (vs := [3]) tN A (fun S => false) tN (iAny_tTs (i := 0) (env := [some (tTs A), some (lT A), some (nI n), none]) (h := h) rfl) (fun S hS c => ⟨[some (tTs A), some (lT A), some (nI n), some (tN S)], rfl, by
      have := l_kind (hA S hS) (h ++ [c])
      simp only [fnM, env0, sSeq, sSet, sRet, sRetN, sIf, sExpr, sNil, onR, eVar, eC, eOp, eAnd, eOr, eNot, eNeg, eIf, bAnd, bOr, bNot, bOp, bTru, asB, eChain, eCall, eFn, eFnD, eFnK, aCons, aNil, R.bind, List.length_cons, List.length_nil, List.replicate, List.map_cons, List.map_nil, List.cons_append, List.nil_append, List.getElem?_cons_zero, List.getElem?_cons_succ, List.set_cons_zero, List.set_cons_succ, wipeE, tgN, truth, bYes, pl_int, pl_bl, pl_non, pl_str, pl_tup, pl_lst, Nat.reduceAdd, Nat.reduceSub, Nat.reduceLT, if_true, Bool.true_and, Bool.and_true, Bool.not_true, Bool.not_false, Bool.false_eq_true, if_false, Nat.zero_add, truth_bl, fTuple_lst, fTuple_tup, this], rfl⟩) fun _ => rfl
    rw [this, List.filter_eq_nil_iff.mpr (by simp)]; rfl
  have e5 := fLen_lT ([] : List (List Nat)) h
  simp only [F__law_sublists_are, m__law_sublists_are, fnM, env0, sSeq, sSet, sRet, sRetN, sIf, sExpr, sNil, onR, eVar, eC, eOp, eAnd, eOr, eNot, eNeg, eIf, bAnd, bOr, bNot, bOp, bTru, asB, eChain, eCall, eFn, eFnD, eFnK, aCons, aNil, R.bind, List.length_cons, List.length_nil, List.replicate, List.map_cons, List.map_nil, List.cons_append, List.nil_append, List.getElem?_cons_zero, List.getElem?_cons_succ, List.set_cons_zero, List.set_cons_succ, wipeE, tgN, truth, bYes, pl_int, pl_bl, pl_non, pl_str, pl_tup, pl_lst, Nat.reduceAdd, Nat.reduceSub, Nat.reduceLT, if_true, Bool.true_and, Bool.and_true, Bool.not_true, Bool.not_false, Bool.false_eq_true, if_false, Nat.zero_add, truth_bl, fTuple_lst, fTuple_tup, e1, e2, e3, oNe_lT, decide_true, e4, e5, oEq_int]
  exact fin_same rfl
/-- a tuple of one row -/
theorem l_are1 {n : Nat} {S : List Nat} (hS : canon n S) (h : Hpp) : F__law_sublists_are [.tup [tN S], .lst [tN S], nI n] h = .ok (.bl true) h := l_are (A := [S]) (by simpa using hS) h
theorem forGo_up {t : Tg} {body : SM} (I : Nat → Nb.Env → Hpp → Prop) : ∀ (m k : Nat) (env : Nb.Env) (hh : Hpp), (∀ i env hh, k ≤ i → i < k + m → I i env hh → ∃ e1 e2 h2, t (nI i) env = some e1 ∧ body e1 hh = .nx e2 h2 ∧ I (i + 1) e2 h2) → I k env hh →
    ∃ e2 h2, forGo [] t body ((List.range' k m).map nI) env hh = .nx e2 h2 ∧ I (k + m) e2 h2
  | 0, k, env, hh, _, i => ⟨env, hh, by rw [List.range'_zero, List.map_nil, forGo, if_pos (srcOk_nil _)], i⟩
  | m + 1, k, env, hh, hs, i => by
    obtain ⟨e1, e2, h2, q1, q2, q3⟩ := hs k env hh (Nat.le_refl _) (by omega) i
    obtain ⟨e3, h3, q4, q5⟩ := forGo_up I m (k + 1) e2 h2 (fun j env hh a b => hs j env hh (by omega) (by omega)) q3
    refine ⟨e3, h3, ?_, by rw [show k + (m + 1) = k + 1 + m by omega]; exact q5⟩
    rw [List.range'_succ, List.map_cons, forGo, if_pos (srcOk_nil _), q1]
    simp only [q2, q4]
theorem forGo_rng {t : Tg} {body : SM} (n : Nat) (I : Nat → Nb.Env → Hpp → Prop) {env : Nb.Env} {hh : Hpp} (hs : ∀ i env hh, i < n → I i env hh → ∃ e1 e2 h2, t (nI i) env = some e1 ∧ body e1 hh = .nx e2 h2 ∧ I (i + 1) e2 h2) (h0 : I 0 env hh) :
    ∃ e2 h2, forGo [] t body ((List.range n).map nI) env hh = .nx e2 h2 ∧ I n e2 h2 := by
  obtain ⟨e2, h2, q1, q2⟩ := forGo_up (t := t) (body := body) I n 0 env hh (fun i env hh _ b => hs i env hh (by omega)) h0
  rw [← List.range_eq_range'] at q1
  rw [Nat.zero_add] at q2
  exact ⟨e2, h2, q1, q2⟩
theorem oAdd_lT (A B : List (List Nat)) (h : Hpp) (hz : A.length + B.length ≤ 100000) : oAdd (lT A) (lT B) h = .ok (lT (A ++ B)) h := by
  have hle : (A.map tN).length + (B.map tN).length ≤ 16777216 := by rw [List.length_map, List.length_map]; omega
  simp only [oAdd, lT, asN, asL]
  rw [if_pos hle, List.map_append]
theorem tN_tupI (S : List Nat) : tN S = tupI (S.map fun (n : Nat) => (n : Int)) := by rw [tupI, map_nI]; rfl
theorem sortT_layer (n k : Nat) (h : Hpp) : fSortedT false [lT ((dbl n).filter fun S => decide (S.length = k))] h = .ok (lT (layer n k)) h := by
  have a : (asL (lT ((dbl n).filter fun S => decide (S.length = k))) h).bind tupsOf = some (((dbl n).filter fun S => decide (S.length = k)).map fun S => S.map fun (n : Nat) => (n : Int)) := by
    show tupsOf _ = _
    have := tupsOf_map (((dbl n).filter fun S => decide (S.length = k)).map fun S => S.map fun (n : Nat) => (n : Int))
    rw [List.map_map] at this
    rw [← this]
    congr 1
    exact List.map_congr_left fun S _ => tN_tupI S
  have b : (((dbl n).filter fun S => decide (S.length = k)).map fun S => S.map fun (n : Nat) => (n : Int)).length < 2 ∨ (((dbl n).filter fun S => decide (S.length = k)).map fun S => S.map fun (n : Nat) => (n : Int)).all (fun n => !n.isEmpty) = true := by
    by_cases hk : k = 0
    · left
      subst hk
      rw [List.length_map]
      have hle : ((dbl n).filter fun S => decide (S.length = 0)).length ≤ [([] : List Nat)].length := List.Nodup.length_le_of_subset ((nodup_dbl n).filter _) fun S hS => by
        have := (List.mem_filter.mp hS).2
        simp at this
        simp [this]
      simp only [List.length_singleton] at hle
      omega
    · right
      rw [List.all_eq_true]
      intro S hS
      obtain ⟨T, hT, rfl⟩ := List.mem_map.mp hS
      have := (List.mem_filter.mp hT).2
      cases T with
      | nil => simp at this; omega
      | cons _ _ => rfl
  simp only [fSortedT, a]
  rw [if_pos b, sort_layer, mkL, lT, List.map_map]
  simp only [Bool.false_eq_true, if_false]
  congr 2
  exact List.map_congr_left fun S _ => (tN_tupI S).symm
theorem l_lots {n : Nat} (hn : n ≤ 8) (h : Hpp) : F__law_lots [nI n] h = .ok (lT (subs n)) h := by
  have p8 := pow_8 hn
  have l1 := forGo_rng (t := tgN 2) (body := (sSet 1 (eOp oAdd (eVar 1) (eLc false (iAny (eVar 1)) (tgN 5) bYes (eOp oAdd (eVar 5) (eTup (aCons (eVar 2) aNil))) [5])))) (env := [some (nI n), some (lT [[]]), none, none, none, none]) (hh := h) n (fun i env hh => hh = h ∧ ∃ x2, env = [some (nI n), some (lT (dbl i)), x2, none, none, none]) (fun i env hh hi ⟨i1, x2, i2⟩ => by
    subst i1; subst i2
    refine ⟨[some (nI n), some (lT (dbl i)), some (nI i), none, none, none], [some (nI n), some (lT (dbl (i + 1))), some (nI i), none, none, none], _, rfl, ?_, rfl, _, rfl⟩
    have hp : 2 ^ i ≤ 2 ^ 8 := Nat.pow_le_pow_right (by decide) (by omega)
    have m1 : (eLc false (iAny (eVar 1)) (tgN 5) bYes (eOp oAdd (eVar 5) (eTup (aCons (eVar 2) aNil))) [5]) [some (nI n), some (lT (dbl i)), some (nI i), none, none, none] hh = .ok (lT ((dbl i).map fun S => S ++ [i])) hh := by
      have := lc_map (t := tgN 5) (te := (eOp oAdd (eVar 5) (eTup (aCons (eVar 2) aNil)))) (vs := [5]) tN (dbl i) (fun S => tN (S ++ [i])) (iAny_lT (i := 1) (env := [some (nI n), some (lT (dbl i)), some (nI i), none, none, none]) (h := hh) rfl) (fun S hS c => ⟨[some (nI n), some (lT (dbl i)), some (nI i), none, none, some (tN S)], rfl, by
        have hle : (S.map nI).length + [nI i].length ≤ 16777216 := by
          have := canon_length (mem_dbl.mp hS)
          simp only [List.length_map, List.length_singleton]; omega
        have e : oAdd (tN S) (.tup [nI i]) (hh ++ [c]) = .ok (tN (S ++ [i])) (hh ++ [c]) := by
          simp only [oAdd, tN]
          rw [if_pos hle, List.map_append]; rfl
        have e2 : eTup (aCons (eVar 2) aNil) [some (nI n), some (lT (dbl i)), some (nI i), none, none, some (tN S)] (hh ++ [c]) = .ok (.tup [nI i]) (hh ++ [c]) := rfl
        simp only [eOp, eVar, List.getElem?_cons_zero, List.getElem?_cons_succ, R.bind, e2, e]⟩) fun _ => rfl
      rw [this, lT, List.map_map]; rfl
    have m2 := oAdd_lT (dbl i) ((dbl i).map fun S => S ++ [i]) hh (by rw [List.length_map, dbl_length]; omega)
    simp only [fnM, env0, sSeq, sSet, sRet, sRetN, sIf, sExpr, sNil, onR, eVar, eC, eOp, eAnd, eOr, eNot, eNeg, eIf, bAnd, bOr, bNot, bOp, bTru, asB, eChain, eCall, eFn, eFnD, eFnK, aCons, aNil, R.bind, List.length_cons, List.length_nil, List.replicate, List.map_cons, List.map_nil, List.cons_append, List.nil_append, List.getElem?_cons_zero, List.getElem?_cons_succ, List.set_cons_zero, List.set_cons_succ, wipeE, tgN, truth, bYes, pl_int, pl_bl, pl_non, pl_str, pl_tup, pl_lst, Nat.reduceAdd, Nat.reduceSub, Nat.reduceLT, if_true, Bool.true_and, Bool.and_true, Bool.not_true, Bool.not_false, Bool.false_eq_true, if_false, Nat.zero_add, truth_bl, fTuple_lst, fTuple_tup, m1, m2]; rfl) ⟨rfl, none, rfl⟩
  obtain ⟨e1, h1, q1, rfl, x2, rfl⟩ := l1
  have l2 := forGo_rng (t := tgN 4) (body := (sSet 3 (eOp oAdd (eVar 3) (eCall (fSortedT false) (aCons (eLc false (iAny (eVar 1)) (tgN 5) (bOp oEq (eCall fLen (aCons (eVar 5) aNil)) (eVar 4)) (eVar 5) [5]) aNil))))) (env := [some (nI n), some (lT (dbl n)), x2, some (lT []), none, none]) (hh := h1) (n + 1) (fun k env hh => hh = h1 ∧ ∃ x4, env = [some (nI n), some (lT (dbl n)), x2, some (lT (subsTo n k)), x4, none]) (fun k env hh hk ⟨i1, x4, i2⟩ => by
    subst i1; subst i2
    refine ⟨[some (nI n), some (lT (dbl n)), x2, some (lT (subsTo n k)), some (nI k), none], [some (nI n), some (lT (dbl n)), x2, some (lT (subsTo n (k + 1))), some (nI k), none], _, rfl, ?_, rfl, _, rfl⟩
    have m1 : (eLc false (iAny (eVar 1)) (tgN 5) (bOp oEq (eCall fLen (aCons (eVar 5) aNil)) (eVar 4)) (eVar 5) [5]) [some (nI n), some (lT (dbl n)), x2, some (lT (subsTo n k)), some (nI k), none] hh = .ok (lT ((dbl n).filter fun S => decide (S.length = k))) hh :=
      lc_fil tN (dbl n) _ tN (iAny_lT (i := 1) rfl) (fun S hS c => ⟨[some (nI n), some (lT (dbl n)), x2, some (lT (subsTo n k)), some (nI k), some (tN S)], rfl, by
        have e := fLen_tN S (hh ++ [c])
        simp only [fnM, env0, sSeq, sSet, sRet, sRetN, sIf, sExpr, sNil, onR, eVar, eC, eOp, eAnd, eOr, eNot, eNeg, eIf, bAnd, bOr, bNot, bOp, bTru, asB, eChain, eCall, eFn, eFnD, eFnK, aCons, aNil, R.bind, List.length_cons, List.length_nil, List.replicate, List.map_cons, List.map_nil, List.cons_append, List.nil_append, List.getElem?_cons_zero, List.getElem?_cons_succ, List.set_cons_zero, List.set_cons_succ, wipeE, tgN, truth, bYes, pl_int, pl_bl, pl_non, pl_str, pl_tup, pl_lst, Nat.reduceAdd, Nat.reduceSub, Nat.reduceLT, if_true, Bool.true_and, Bool.and_true, Bool.not_true, Bool.not_false, Bool.false_eq_true, if_false, Nat.zero_add, truth_bl, fTuple_lst, fTuple_tup, e, nI, oEq_int]
        congr 1
        exact decide_eq_decide.mpr (by omega), rfl⟩) fun _ => rfl
    have m2 := sortT_layer n k hh
    have m3 := oAdd_lT (subsTo n k) (layer n k) hh (by have := subsTo_len n k; have := layer_len n k; omega)
    simp only [fnM, env0, sSeq, sSet, sRet, sRetN, sIf, sExpr, sNil, onR, eVar, eC, eOp, eAnd, eOr, eNot, eNeg, eIf, bAnd, bOr, bNot, bOp, bTru, asB, eChain, eCall, eFn, eFnD, eFnK, aCons, aNil, R.bind, List.length_cons, List.length_nil, List.replicate, List.map_cons, List.map_nil, List.cons_append, List.nil_append, List.getElem?_cons_zero, List.getElem?_cons_succ, List.set_cons_zero, List.set_cons_succ, wipeE, tgN, truth, bYes, pl_int, pl_bl, pl_non, pl_str, pl_tup, pl_lst, Nat.reduceAdd, Nat.reduceSub, Nat.reduceLT, if_true, Bool.true_and, Bool.and_true, Bool.not_true, Bool.not_false, Bool.false_eq_true, if_false, Nat.zero_add, truth_bl, fTuple_lst, fTuple_tup, m1, m2, m3]; rfl) ⟨rfl, none, rfl⟩
  obtain ⟨e2, h2, q2, rfl, x4, rfl⟩ := l2
  have it1 : (iRg1 (aCons (eVar 0) aNil)) [some (nI n), some (lT [[]]), none, none, none, none] h2 = .ok ⟨(List.range n).map nI, []⟩ h2 := iRg1_e (by omega) rfl
  have it2 : (iRg1 (aCons (eOp oAdd (eVar 0) (eC (.int 1))) aNil)) [some (nI n), some (lT (dbl n)), x2, some (lT []), none, none] h2 = .ok ⟨(List.range (n + 1)).map nI, []⟩ h2 := iRg1_e (by omega) rfl
  have e3 : eLst false (aCons (eTup aNil) aNil) [some (nI n), none, none, none, none, none] h2 = .ok (lT [[]]) h2 := rfl
  have e4 : eLst false aNil [some (nI n), some (lT (dbl n)), x2, none, none, none] h2 = .ok (lT []) h2 := rfl
  simp only [F__law_lots, m__law_lots, fnM, env0, sSeq, sSet, sRet, sRetN, sIf, sExpr, sNil, onR, eVar, eC, eOp, eAnd, eOr, eNot, eNeg, eIf, bAnd, bOr, bNot, bOp, bTru, asB, eChain, eCall, eFn, eFnD, eFnK, aCons, aNil, R.bind, List.length_cons, List.length_nil, List.replicate, List.map_cons, List.map_nil, List.cons_append, List.nil_append, List.getElem?_cons_zero, List.getElem?_cons_succ, List.set_cons_zero, List.set_cons_succ, wipeE, tgN, truth, bYes, pl_int, pl_bl, pl_non, pl_str, pl_tup, pl_lst, Nat.reduceAdd, Nat.reduceSub, Nat.reduceLT, if_true, Bool.true_and, Bool.and_true, Bool.not_true, Bool.not_false, Bool.false_eq_true, if_false, Nat.zero_add, truth_bl, fTuple_lst, fTuple_tup, e3, sFor, it1, q1, e4, it2, q2]
  exact fin_same rfl
end Law
end
end
section
set_option Elab.async false
set_option linter.all false
set_option maxRecDepth 100000
set_option maxHeartbeats 400000
noncomputable section
namespace Law
open Nb
theorem foldl_says (w : Nat) (lots : List (List Nat)) : ∀ (S acc : List Nat), S.foldl (fun acc i => acc.filter fun x => decide (x ∈ lots.getD i [])) acc = acc.filter fun x => S.all fun i => decide (x ∈ lots.getD i [])
  | [], acc => (filter_yes acc).symm
  | i :: S, acc => by
    rw [List.foldl_cons, foldl_says w lots S, List.filter_filter]
    refine List.filter_congr fun x _ => ?_
    rw [List.all_cons, Bool.and_comm]
theorem l_says {w : Nat} (hw : w ≤ 12) {lots : List (List Nat)} {S : List Nat} (hS : canon lots.length S) (h : Hpp) : F__law_says [lT lots, nI w, tN S] h = .ok (tN (saysL w lots S)) h := by
  obtain ⟨e2, h2, q1, rfl, ⟨x4, rfl⟩, _⟩ := forGo_st (t := tgN 4) (body := (sSet 3 (eFn 2 F__law_common (aCons (eVar 3) (aCons (eOp oIx (eVar 0) (eVar 4)) aNil))))) nI (fun xs acc env hh => hh = h ∧ (∃ x4, env = [some (lT lots), some (nI w), some (tN S), some (tN acc), x4]) ∧ ∀ x ∈ xs, x < lots.length) (fun acc i => acc.filter fun x => decide (x ∈ lots.getD i [])) (fun i xs acc env hh ⟨i1, ⟨x4, i2⟩, i3⟩ => by
    subst i1; subst i2
    refine ⟨[some (lT lots), some (nI w), some (tN S), some (tN acc), some (nI i)], [some (lT lots), some (nI w), some (tN S), some (tN (acc.filter fun x => decide (x ∈ lots.getD i []))), some (nI i)], _, rfl, ?_, rfl, ⟨_, rfl⟩, fun x hx => i3 x (List.mem_cons_of_mem _ hx)⟩
    have m1 := oIx_lT (ls := lots) (h := hh) (i3 i List.mem_cons_self)
    have m2 := l_common acc (lots.getD i []) hh
    simp only [fnM, env0, sSeq, sSet, sRet, sRetN, sIf, sExpr, sNil, onR, eVar, eC, eOp, eAnd, eOr, eNot, eNeg, eIf, bAnd, bOr, bNot, bOp, bTru, asB, eChain, eCall, eFn, eFnD, eFnK, aCons, aNil, R.bind, List.length_cons, List.length_nil, List.replicate, List.map_cons, List.map_nil, List.cons_append, List.nil_append, List.getElem?_cons_zero, List.getElem?_cons_succ, List.set_cons_zero, List.set_cons_succ, wipeE, tgN, truth, bYes, pl_int, pl_bl, pl_non, pl_str, pl_tup, pl_lst, Nat.reduceAdd, Nat.reduceSub, Nat.reduceLT, if_true, Bool.true_and, Bool.and_true, Bool.not_true, Bool.not_false, Bool.false_eq_true, if_false, Nat.zero_add, truth_bl, fTuple_lst, fTuple_tup, m1, m2]) S (List.range w) [some (lT lots), some (nI w), some (tN S), some (tN (List.range w)), none] h ⟨rfl, ⟨_, rfl⟩, hS.2⟩
  have it := iAny_tN (i := 2) (env := [some (lT lots), some (nI w), some (tN S), some (tN (List.range w)), none]) (l := S) (h := h2) rfl
  have e1 : eTupRg (mRg1 (eVar 1)) [some (lT lots), some (nI w), some (tN S), none, none] h2 = .ok (tN (List.range w)) h2 := eTupRg_e (mRg1_e (by omega) rfl)
  have e3 := foldl_says w lots S (List.range w)
  rw [e3] at q1
  simp only [F__law_says, m__law_says, fnM, env0, sSeq, sSet, sRet, sRetN, sIf, sExpr, sNil, onR, eVar, eC, eOp, eAnd, eOr, eNot, eNeg, eIf, bAnd, bOr, bNot, bOp, bTru, asB, eChain, eCall, eFn, eFnD, eFnK, aCons, aNil, R.bind, List.length_cons, List.length_nil, List.replicate, List.map_cons, List.map_nil, List.cons_append, List.nil_append, List.getElem?_cons_zero, List.getElem?_cons_succ, List.set_cons_zero, List.set_cons_succ, wipeE, tgN, truth, bYes, pl_int, pl_bl, pl_non, pl_str, pl_tup, pl_lst, Nat.reduceAdd, Nat.reduceSub, Nat.reduceLT, if_true, Bool.true_and, Bool.and_true, Bool.not_true, Bool.not_false, Bool.false_eq_true, if_false, Nat.zero_add, truth_bl, fTuple_lst, fTuple_tup, e1, sFor, it, q1]
  exact fin_same rfl
/-- the law's carried -/
def carC (w : Nat) (lots : List (List Nat)) (L : List Nat) : List (List Nat) := (subs lots.length).filter fun S => (saysL w lots S).all fun x => decide (x ∈ L)
theorem l_carried {w : Nat} (hw : w ≤ 12) {lots : List (List Nat)} (hz : lots.length ≤ 8) (L : List Nat) (h : Hpp) : F__law_carried [lT lots, nI w, tN L] h = .ok (lT (carC w lots L)) h := by
  obtain ⟨env, ⟨x4, rfl⟩, loop⟩ := forGo_fil (t := tgN 4) (body := (sIf (bTru (eFn 2 F__law_inside (aCons (eFn 3 F__law_says (aCons (eVar 0) (aCons (eVar 1) (aCons (eVar 4) aNil)))) (aCons (eVar 2) aNil)))) (sExpr (eMt (eVar 3) (aCons (eVar 4) aNil) fAppend)) sNil)) h (fun env => ∃ x4, env = [some (lT lots), some (nI w), some (tN L), some (.ref h.length), x4]) (fun S => (saysL w lots S).all fun x => decide (x ∈ L)) (canon lots.length) (fun S acc env hS hE hacc => by
    obtain ⟨x4, rfl⟩ := hE
    refine ⟨[some (lT lots), some (nI w), some (tN L), some (.ref h.length), some (tN S)], [some (lT lots), some (nI w), some (tN L), some (.ref h.length), some (tN S)], rfl, ?_, ⟨_, rfl⟩⟩
    have m1 := l_says hw hS (h ++ [.lst (acc.map tN)])
    have m2 := l_inside (saysL w lots S) L (h ++ [.lst (acc.map tN)])
    have m5 := app_tN h acc S hacc
    simp only [fnM, env0, sSeq, sSet, sRet, sRetN, sIf, sExpr, sNil, onR, eVar, eC, eOp, eAnd, eOr, eNot, eNeg, eIf, bAnd, bOr, bNot, bOp, bTru, asB, eChain, eCall, eFn, eFnD, eFnK, aCons, aNil, R.bind, List.length_cons, List.length_nil, List.replicate, List.map_cons, List.map_nil, List.cons_append, List.nil_append, List.getElem?_cons_zero, List.getElem?_cons_succ, List.set_cons_zero, List.set_cons_succ, wipeE, tgN, truth, bYes, pl_int, pl_bl, pl_non, pl_str, pl_tup, pl_lst, Nat.reduceAdd, Nat.reduceSub, Nat.reduceLT, if_true, Bool.true_and, Bool.and_true, Bool.not_true, Bool.not_false, Bool.false_eq_true, if_false, Nat.zero_add, truth_bl, fTuple_lst, fTuple_tup, m1, m2]
    cases ((saysL w lots S).all fun x => decide (x ∈ L)) with
    | false => simp
    | true => simp only [if_true, eMt, fnM, env0, sSeq, sSet, sRet, sRetN, sIf, sExpr, sNil, onR, eVar, eC, eOp, eAnd, eOr, eNot, eNeg, eIf, bAnd, bOr, bNot, bOp, bTru, asB, eChain, eCall, eFn, eFnD, eFnK, aCons, aNil, R.bind, List.length_cons, List.length_nil, List.replicate, List.map_cons, List.map_nil, List.cons_append, List.nil_append, List.getElem?_cons_zero, List.getElem?_cons_succ, List.set_cons_zero, List.set_cons_succ, wipeE, tgN, truth, bYes, pl_int, pl_bl, pl_non, pl_str, pl_tup, pl_lst, Nat.reduceAdd, Nat.reduceSub, Nat.reduceLT, if_true, Bool.true_and, Bool.and_true, Bool.not_true, Bool.not_false, Bool.false_eq_true, if_false, Nat.zero_add, truth_bl, fTuple_lst, fTuple_tup, asL_c, m5]) (xs := subs lots.length) (fun S hS => mem_subs.mp hS) (env := [some (lT lots), some (nI w), some (tN L), some (.ref h.length), none]) ⟨_, rfl⟩ (subs_len hz)
  have e4 := l_lots hz (h ++ [.lst []])
  have e5 := fun h => fLen_lT lots h
  have it : (iAny (eFn 1 F__law_lots (aCons (eCall fLen (aCons (eVar 0) aNil)) aNil))) [some (lT lots), some (nI w), some (tN L), some (.ref h.length), none] (h ++ [.lst []]) = .ok ⟨(subs lots.length).map tN, []⟩ (h ++ [.lst []]) := iAny_e (d := lT (subs lots.length)) (by simp only [fnM, env0, sSeq, sSet, sRet, sRetN, sIf, sExpr, sNil, onR, eVar, eC, eOp, eAnd, eOr, eNot, eNeg, eIf, bAnd, bOr, bNot, bOp, bTru, asB, eChain, eCall, eFn, eFnD, eFnK, aCons, aNil, R.bind, List.length_cons, List.length_nil, List.replicate, List.map_cons, List.map_nil, List.cons_append, List.nil_append, List.getElem?_cons_zero, List.getElem?_cons_succ, List.set_cons_zero, List.set_cons_succ, wipeE, tgN, truth, bYes, pl_int, pl_bl, pl_non, pl_str, pl_tup, pl_lst, Nat.reduceAdd, Nat.reduceSub, Nat.reduceLT, if_true, Bool.true_and, Bool.and_true, Bool.not_true, Bool.not_false, Bool.false_eq_true, if_false, Nat.zero_add, truth_bl, fTuple_lst, fTuple_tup, e5, e4]) (.inr rfl)
  have e6 : eLst true aNil [some (lT lots), some (nI w), some (tN L), none, none] h = .ok (.ref h.length) (h ++ [.lst []]) := rfl
  simp only [F__law_carried, m__law_carried, fnM, env0, sSeq, sSet, sRet, sRetN, sIf, sExpr, sNil, onR, eVar, eC, eOp, eAnd, eOr, eNot, eNeg, eIf, bAnd, bOr, bNot, bOp, bTru, asB, eChain, eCall, eFn, eFnD, eFnK, aCons, aNil, R.bind, List.length_cons, List.length_nil, List.replicate, List.map_cons, List.map_nil, List.cons_append, List.nil_append, List.getElem?_cons_zero, List.getElem?_cons_succ, List.set_cons_zero, List.set_cons_succ, wipeE, tgN, truth, bYes, pl_int, pl_bl, pl_non, pl_str, pl_tup, pl_lst, Nat.reduceAdd, Nat.reduceSub, Nat.reduceLT, if_true, Bool.true_and, Bool.and_true, Bool.not_true, Bool.not_false, Bool.false_eq_true, if_false, Nat.zero_add, truth_bl, fTuple_lst, fTuple_tup, e6, sFor, it, loop]
  simp [finR, lT, carC]
def rC (n : Nat) (C : List (List Nat)) (S : List Nat) : Bool := !decide (S ∈ C) && ((List.range n).filter fun p => !decide (p ∈ S)).all fun p => decide (can n (S ++ [p]) ∈ C)
theorem l_rests {n : Nat} (hn : n ≤ 8) (C : List (List Nat)) (h : Hpp) : F__law_rests [nI n, lT C] h = .ok (lT ((subs n).filter (rC n C))) h := by
  obtain ⟨env, ⟨x3, x4, rfl⟩, loop⟩ := forGo_fil (t := tgN 3) (body := (sIf (bOp (oIn true) (eVar 3) (eVar 1)) (sSeq (sSet 4 (eLc false (iRg1 (aCons (eVar 0) aNil)) (tgN 5) (bOp (oIn true) (eVar 5) (eVar 3)) (eVar 5) [5]))
  (sIf (bOp oEq (eCall fLen (aCons (eLc false (iAny (eVar 4)) (tgN 5) (bOp (oIn true) (eFn 2 F__law_plus (aCons (eVar 3) (aCons (eTup (aCons (eVar 5) aNil)) aNil))) (eVar 1)) (eVar 5) [5]) aNil)) (eC (.int 0))) (sExpr (eMt (eVar 2) (aCons (eVar 3) aNil) fAppend)) sNil)) sNil)) h (fun env => ∃ x3 x4, env = [some (nI n), some (lT C), some (.ref h.length), x3, x4, none]) (rC n C) (canon n) (fun S acc env hS hE hacc => by
    obtain ⟨x3, x4, rfl⟩ := hE
    have m0 := oIn_lT (h ++ [.lst (acc.map tN)]) true S C
    by_cases hC : S ∈ C
    · refine ⟨[some (nI n), some (lT C), some (.ref h.length), some (tN S), x4, none], [some (nI n), some (lT C), some (.ref h.length), some (tN S), x4, none], rfl, ?_, ⟨_, _, rfl⟩⟩
      have e : rC n C S = false := by simp [rC, hC]
      rw [e]
      simp only [fnM, env0, sSeq, sSet, sRet, sRetN, sIf, sExpr, sNil, onR, eVar, eC, eOp, eAnd, eOr, eNot, eNeg, eIf, bAnd, bOr, bNot, bOp, bTru, asB, eChain, eCall, eFn, eFnD, eFnK, aCons, aNil, R.bind, List.length_cons, List.length_nil, List.replicate, List.map_cons, List.map_nil, List.cons_append, List.nil_append, List.getElem?_cons_zero, List.getElem?_cons_succ, List.set_cons_zero, List.set_cons_succ, wipeE, tgN, truth, bYes, pl_int, pl_bl, pl_non, pl_str, pl_tup, pl_lst, Nat.reduceAdd, Nat.reduceSub, Nat.reduceLT, if_true, Bool.true_and, Bool.and_true, Bool.not_true, Bool.not_false, Bool.false_eq_true, if_false, Nat.zero_add, truth_bl, fTuple_lst, fTuple_tup, m0, hC, decide_true]
    · refine ⟨[some (nI n), some (lT C), some (.ref h.length), some (tN S), x4, none], [some (nI n), some (lT C), some (.ref h.length), some (tN S), some (lN (coL n S)), none], rfl, ?_, ⟨_, _, rfl⟩⟩
      have m1 : (eLc false (iRg1 (aCons (eVar 0) aNil)) (tgN 5) (bOp (oIn true) (eVar 5) (eVar 3)) (eVar 5) [5]) [some (nI n), some (lT C), some (.ref h.length), some (tN S), x4, none] (h ++ [.lst (acc.map tN)]) = .ok (lN (coL n S)) (h ++ [.lst (acc.map tN)]) :=
        lc_fil nI (List.range n) _ nI (iRg1_e (by omega) (by simp only [fnM, env0, sSeq, sSet, sRet, sRetN, sIf, sExpr, sNil, onR, eVar, eC, eOp, eAnd, eOr, eNot, eNeg, eIf, bAnd, bOr, bNot, bOp, bTru, asB, eChain, eCall, eFn, eFnD, eFnK, aCons, aNil, R.bind, List.length_cons, List.length_nil, List.replicate, List.map_cons, List.map_nil, List.cons_append, List.nil_append, List.getElem?_cons_zero, List.getElem?_cons_succ, List.set_cons_zero, List.set_cons_succ, wipeE, tgN, truth, bYes, pl_int, pl_bl, pl_non, pl_str, pl_tup, pl_lst, Nat.reduceAdd, Nat.reduceSub, Nat.reduceLT, if_true, Bool.true_and, Bool.and_true, Bool.not_true, Bool.not_false, Bool.false_eq_true, if_false, Nat.zero_add, truth_bl, fTuple_lst, fTuple_tup])) (fun x hx c => ⟨[some (nI n), some (lT C), some (.ref h.length), some (tN S), x4, some (nI x)], rfl, by simp only [fnM, env0, sSeq, sSet, sRet, sRetN, sIf, sExpr, sNil, onR, eVar, eC, eOp, eAnd, eOr, eNot, eNeg, eIf, bAnd, bOr, bNot, bOp, bTru, asB, eChain, eCall, eFn, eFnD, eFnK, aCons, aNil, R.bind, List.length_cons, List.length_nil, List.replicate, List.map_cons, List.map_nil, List.cons_append, List.nil_append, List.getElem?_cons_zero, List.getElem?_cons_succ, List.set_cons_zero, List.set_cons_succ, wipeE, tgN, truth, bYes, pl_int, pl_bl, pl_non, pl_str, pl_tup, pl_lst, Nat.reduceAdd, Nat.reduceSub, Nat.reduceLT, if_true, Bool.true_and, Bool.and_true, Bool.not_true, Bool.not_false, Bool.false_eq_true, if_false, Nat.zero_add, truth_bl, fTuple_lst, fTuple_tup, oIn_tN], rfl⟩) fun _ => rfl
      have m2 : (eLc false (iAny (eVar 4)) (tgN 5) (bOp (oIn true) (eFn 2 F__law_plus (aCons (eVar 3) (aCons (eTup (aCons (eVar 5) aNil)) aNil))) (eVar 1)) (eVar 5) [5]) [some (nI n), some (lT C), some (.ref h.length), some (tN S), some (lN (coL n S)), none] (h ++ [.lst (acc.map tN)]) = .ok (lN ((coL n S).filter fun p => !decide (can n (S ++ [p]) ∈ C))) (h ++ [.lst (acc.map tN)]) := by
        exact lc_typed nI (coL n S) (fun p => !decide (can n (S ++ [p]) ∈ C)) nI (iAny_at (i := 4) rfl (.inr rfl)) (fun c => srcOk_nil _) (fun x hx c => by
          refine ⟨[some (nI n), some (lT C), some (.ref h.length), some (tN S), some (lN (coL n S)), some (nI x)], rfl, ?_, fun _ => rfl⟩
          have hx2 : x < n ∧ x ∉ S := by
            simp only [coL, List.mem_filter, List.mem_range, Bool.not_eq_true', decide_eq_false_iff_not] at hx
            exact hx
          have e1 := l_plus hS hx2.1 hx2.2 (h ++ [.lst (acc.map tN)] ++ [c]) (by omega)
          have e2 : eTup (aCons (eVar 5) aNil) [some (nI n), some (lT C), some (.ref h.length), some (tN S), some (lN (coL n S)), some (nI x)] (h ++ [.lst (acc.map tN)] ++ [c]) = .ok (tN [x]) (h ++ [.lst (acc.map tN)] ++ [c]) := rfl
          have e3 := oIn_lT (h ++ [.lst (acc.map tN)] ++ [c]) true (can n (S ++ [x])) C
          simp only [bOp, eOp, eFn, aCons, aNil, R.bind, e2, eVar, List.getElem?_cons_zero, List.getElem?_cons_succ, List.length_cons, List.length_nil, Nat.reduceAdd, if_true, e1, e3]) fun _ => rfl
      have m3 := fLen_lN ((coL n S).filter fun p => !decide (can n (S ++ [p]) ∈ C)) (h ++ [.lst (acc.map tN)])
      have m5 := app_tN h acc S hacc
      have e : rC n C S = (coL n S).all fun p => decide (can n (S ++ [p]) ∈ C) := by simp [rC, coL, hC]
      rw [e]
      simp only [fnM, env0, sSeq, sSet, sRet, sRetN, sIf, sExpr, sNil, onR, eVar, eC, eOp, eAnd, eOr, eNot, eNeg, eIf, bAnd, bOr, bNot, bOp, bTru, asB, eChain, eCall, eFn, eFnD, eFnK, aCons, aNil, R.bind, List.length_cons, List.length_nil, List.replicate, List.map_cons, List.map_nil, List.cons_append, List.nil_append, List.getElem?_cons_zero, List.getElem?_cons_succ, List.set_cons_zero, List.set_cons_succ, wipeE, tgN, truth, bYes, pl_int, pl_bl, pl_non, pl_str, pl_tup, pl_lst, Nat.reduceAdd, Nat.reduceSub, Nat.reduceLT, if_true, Bool.true_and, Bool.and_true, Bool.not_true, Bool.not_false, Bool.false_eq_true, if_false, Nat.zero_add, truth_bl, fTuple_lst, fTuple_tup, m0, hC, decide_false, m1, m2, m3, nI, oEq_int, len_zero, fil_empty, Bool.not_not]
      cases ((coL n S).all fun p => decide (can n (S ++ [p]) ∈ C)) with
      | false => simp
      | true => simp only [if_true, eMt, fnM, env0, sSeq, sSet, sRet, sRetN, sIf, sExpr, sNil, onR, eVar, eC, eOp, eAnd, eOr, eNot, eNeg, eIf, bAnd, bOr, bNot, bOp, bTru, asB, eChain, eCall, eFn, eFnD, eFnK, aCons, aNil, R.bind, List.length_cons, List.length_nil, List.replicate, List.map_cons, List.map_nil, List.cons_append, List.nil_append, List.getElem?_cons_zero, List.getElem?_cons_succ, List.set_cons_zero, List.set_cons_succ, wipeE, tgN, truth, bYes, pl_int, pl_bl, pl_non, pl_str, pl_tup, pl_lst, Nat.reduceAdd, Nat.reduceSub, Nat.reduceLT, if_true, Bool.true_and, Bool.and_true, Bool.not_true, Bool.not_false, Bool.false_eq_true, if_false, Nat.zero_add, truth_bl, fTuple_lst, fTuple_tup, asL_c, m5]) (xs := subs n) (fun S hS => mem_subs.mp hS) (env := [some (nI n), some (lT C), some (.ref h.length), none, none, none]) ⟨_, _, rfl⟩ (subs_len hn)
  have e4 := l_lots hn (h ++ [.lst []])
  have it : (iAny (eFn 1 F__law_lots (aCons (eVar 0) aNil))) [some (nI n), some (lT C), some (.ref h.length), none, none, none] (h ++ [.lst []]) = .ok ⟨(subs n).map tN, []⟩ (h ++ [.lst []]) := iAny_e (d := lT (subs n)) (by simp only [fnM, env0, sSeq, sSet, sRet, sRetN, sIf, sExpr, sNil, onR, eVar, eC, eOp, eAnd, eOr, eNot, eNeg, eIf, bAnd, bOr, bNot, bOp, bTru, asB, eChain, eCall, eFn, eFnD, eFnK, aCons, aNil, R.bind, List.length_cons, List.length_nil, List.replicate, List.map_cons, List.map_nil, List.cons_append, List.nil_append, List.getElem?_cons_zero, List.getElem?_cons_succ, List.set_cons_zero, List.set_cons_succ, wipeE, tgN, truth, bYes, pl_int, pl_bl, pl_non, pl_str, pl_tup, pl_lst, Nat.reduceAdd, Nat.reduceSub, Nat.reduceLT, if_true, Bool.true_and, Bool.and_true, Bool.not_true, Bool.not_false, Bool.false_eq_true, if_false, Nat.zero_add, truth_bl, fTuple_lst, fTuple_tup, e4]) (.inr rfl)
  have e6 : eLst true aNil [some (nI n), some (lT C), none, none, none, none] h = .ok (.ref h.length) (h ++ [.lst []]) := rfl
  simp only [F__law_rests, m__law_rests, fnM, env0, sSeq, sSet, sRet, sRetN, sIf, sExpr, sNil, onR, eVar, eC, eOp, eAnd, eOr, eNot, eNeg, eIf, bAnd, bOr, bNot, bOp, bTru, asB, eChain, eCall, eFn, eFnD, eFnK, aCons, aNil, R.bind, List.length_cons, List.length_nil, List.replicate, List.map_cons, List.map_nil, List.cons_append, List.nil_append, List.getElem?_cons_zero, List.getElem?_cons_succ, List.set_cons_zero, List.set_cons_succ, wipeE, tgN, truth, bYes, pl_int, pl_bl, pl_non, pl_str, pl_tup, pl_lst, Nat.reduceAdd, Nat.reduceSub, Nat.reduceLT, if_true, Bool.true_and, Bool.and_true, Bool.not_true, Bool.not_false, Bool.false_eq_true, if_false, Nat.zero_add, truth_bl, fTuple_lst, fTuple_tup, e6, sFor, it, loop]
  simp [finR, lT]
def minF (acc : List (List Nat)) (S : List Nat) : List (List Nat) := if (!acc.any fun T => T.all fun x => decide (x ∈ S)) = true then acc ++ [S] else acc
theorem all_not {α : Type} (p : α → Bool) (l : List α) : (l.all fun x => !p x) = !l.any p := by
  induction l with
  | nil => rfl
  | cons a l ih => simp [ih]
theorem l_kernels (C : List (List Nat)) (hC : C.length < 100000) (h : Hpp) : F__law_kernels [lT C] h = .ok (lT (C.foldl minF [])) h := by
  obtain ⟨env, ⟨x2, rfl⟩, loop⟩ := forGo_rows (t := tgN 2) (body := (sIf (bOp oEq (eCall fLen (aCons (eLc false (iAny (eVar 1)) (tgN 3) (bTru (eFn 2 F__law_inside (aCons (eVar 3) (aCons (eVar 2) aNil)))) (eVar 3) [3]) aNil)) (eC (.int 0))) (sExpr (eMt (eVar 1) (aCons (eVar 2) aNil) fAppend)) sNil)) h (fun env => ∃ x2, env = [some (lT C), some (.ref h.length), x2, none]) minF (fun _ => True) (fun acc x => by unfold minF; split <;> simp) (fun S acc env _ hE hacc => by
    obtain ⟨x2, rfl⟩ := hE
    refine ⟨[some (lT C), some (.ref h.length), some (tN S), none], [some (lT C), some (.ref h.length), some (tN S), none], rfl, ?_, ⟨_, rfl⟩⟩
    have hc3 : (h ++ [Cell.lst (acc.map tN)])[h.length]? = some (.lst (acc.map tN)) := c_at _ _
    have m1 : (eLc false (iAny (eVar 1)) (tgN 3) (bTru (eFn 2 F__law_inside (aCons (eVar 3) (aCons (eVar 2) aNil)))) (eVar 3) [3]) [some (lT C), some (.ref h.length), some (tN S), none] (h ++ [.lst (acc.map tN)]) = .ok (lT (acc.filter fun T => T.all fun x => decide (x ∈ S))) (h ++ [.lst (acc.map tN)]) :=
      lc_typed tN acc (fun T => T.all fun x => decide (x ∈ S)) tN (iAny_cell (i := 1) rfl hc3) (fun c => srcOk_cell hc3 c) (fun T _ c => ⟨[some (lT C), some (.ref h.length), some (tN S), some (tN T)], rfl, by
        have := l_inside T S (h ++ [.lst (acc.map tN)] ++ [c])
        simp only [fnM, env0, sSeq, sSet, sRet, sRetN, sIf, sExpr, sNil, onR, eVar, eC, eOp, eAnd, eOr, eNot, eNeg, eIf, bAnd, bOr, bNot, bOp, bTru, asB, eChain, eCall, eFn, eFnD, eFnK, aCons, aNil, R.bind, List.length_cons, List.length_nil, List.replicate, List.map_cons, List.map_nil, List.cons_append, List.nil_append, List.getElem?_cons_zero, List.getElem?_cons_succ, List.set_cons_zero, List.set_cons_succ, wipeE, tgN, truth, bYes, pl_int, pl_bl, pl_non, pl_str, pl_tup, pl_lst, Nat.reduceAdd, Nat.reduceSub, Nat.reduceLT, if_true, Bool.true_and, Bool.and_true, Bool.not_true, Bool.not_false, Bool.false_eq_true, if_false, Nat.zero_add, truth_bl, fTuple_lst, fTuple_tup, this], fun _ => rfl⟩) fun _ => rfl
    have m3 := fLen_lT (acc.filter fun T => T.all fun x => decide (x ∈ S)) (h ++ [.lst (acc.map tN)])
    have m5 := app_tN h acc S hacc
    simp only [fnM, env0, sSeq, sSet, sRet, sRetN, sIf, sExpr, sNil, onR, eVar, eC, eOp, eAnd, eOr, eNot, eNeg, eIf, bAnd, bOr, bNot, bOp, bTru, asB, eChain, eCall, eFn, eFnD, eFnK, aCons, aNil, R.bind, List.length_cons, List.length_nil, List.replicate, List.map_cons, List.map_nil, List.cons_append, List.nil_append, List.getElem?_cons_zero, List.getElem?_cons_succ, List.set_cons_zero, List.set_cons_succ, wipeE, tgN, truth, bYes, pl_int, pl_bl, pl_non, pl_str, pl_tup, pl_lst, Nat.reduceAdd, Nat.reduceSub, Nat.reduceLT, if_true, Bool.true_and, Bool.and_true, Bool.not_true, Bool.not_false, Bool.false_eq_true, if_false, Nat.zero_add, truth_bl, fTuple_lst, fTuple_tup, m1, m3, nI, oEq_int, len_zero, fil_empty, all_not]
    unfold minF
    cases (acc.any fun T => T.all fun x => decide (x ∈ S)) with
    | true => simp
    | false => simp only [Bool.not_false, if_true, eMt, fnM, env0, sSeq, sSet, sRet, sRetN, sIf, sExpr, sNil, onR, eVar, eC, eOp, eAnd, eOr, eNot, eNeg, eIf, bAnd, bOr, bNot, bOp, bTru, asB, eChain, eCall, eFn, eFnD, eFnK, aCons, aNil, R.bind, List.length_cons, List.length_nil, List.replicate, List.map_cons, List.map_nil, List.cons_append, List.nil_append, List.getElem?_cons_zero, List.getElem?_cons_succ, List.set_cons_zero, List.set_cons_succ, wipeE, tgN, truth, bYes, pl_int, pl_bl, pl_non, pl_str, pl_tup, pl_lst, Nat.reduceAdd, Nat.reduceSub, Nat.reduceLT, if_true, Bool.true_and, Bool.and_true, Bool.not_true, Bool.not_false, Bool.false_eq_true, if_false, Nat.zero_add, truth_bl, fTuple_lst, fTuple_tup, asL_c, m5]) (xs := C) (fun S hS => trivial) (env := [some (lT C), some (.ref h.length), none, none]) ⟨_, rfl⟩ hC
  have it := iAny_lT (i := 0) (env := [some (lT C), some (.ref h.length), none, none]) (l := C) (h := h ++ [.lst []]) rfl
  have e6 : eLst true aNil [some (lT C), none, none, none] h = .ok (.ref h.length) (h ++ [.lst []]) := rfl
  simp only [F__law_kernels, m__law_kernels, fnM, env0, sSeq, sSet, sRet, sRetN, sIf, sExpr, sNil, onR, eVar, eC, eOp, eAnd, eOr, eNot, eNeg, eIf, bAnd, bOr, bNot, bOp, bTru, asB, eChain, eCall, eFn, eFnD, eFnK, aCons, aNil, R.bind, List.length_cons, List.length_nil, List.replicate, List.map_cons, List.map_nil, List.cons_append, List.nil_append, List.getElem?_cons_zero, List.getElem?_cons_succ, List.set_cons_zero, List.set_cons_succ, wipeE, tgN, truth, bYes, pl_int, pl_bl, pl_non, pl_str, pl_tup, pl_lst, Nat.reduceAdd, Nat.reduceSub, Nat.reduceLT, if_true, Bool.true_and, Bool.and_true, Bool.not_true, Bool.not_false, Bool.false_eq_true, if_false, Nat.zero_add, truth_bl, fTuple_lst, fTuple_tup, e6, sFor, it, loop]
  simp [finR, lT]
theorem any_swap (S K : List Nat) : (S.any fun x => decide (x ∈ K)) = K.any fun x => decide (x ∈ S) := by
  apply Bool.eq_iff_iff.mpr
  simp only [List.any_eq_true, decide_eq_true_eq]
  constructor <;> rintro ⟨x, a, b⟩ <;> exact ⟨x, b, a⟩
theorem l_hitting {n : Nat} (hn : n ≤ 8) (Ks : List (List Nat)) (h : Hpp) : F__law_hitting [lT Ks, nI n] h = .ok (lT (hitL n Ks)) h := by
  obtain ⟨env, ⟨x3, x4, rfl⟩, loop⟩ := forGo_rows (t := tgN 3) (body := (sSeq (sSet 4 (eLc false (iAny (eVar 0)) (tgN 5) (bOp oEq (eCall fLen (aCons (eFn 2 F__law_common (aCons (eVar 5) (aCons (eVar 3) aNil))) aNil)) (eC (.int 0))) (eVar 5) [5]))
  (sIf (bAnd (bOp oEq (eCall fLen (aCons (eVar 4) aNil)) (eC (.int 0))) (bOp oEq (eCall fLen (aCons (eLc false (iAny (eVar 2)) (tgN 6) (bTru (eFn 2 F__law_inside (aCons (eVar 6) (aCons (eVar 3) aNil)))) (eVar 6) [6]) aNil)) (eC (.int 0)))) (sExpr (eMt (eVar 2) (aCons (eVar 3) aNil) fAppend)) sNil))) h (fun env => ∃ x3 x4, env = [some (lT Ks), some (nI n), some (.ref h.length), x3, x4, none, none]) (hitF Ks) (canon n) (fun acc x => by unfold hitF; split <;> simp) (fun S acc env _ hE hacc => by
    obtain ⟨x3, x4, rfl⟩ := hE
    refine ⟨[some (lT Ks), some (nI n), some (.ref h.length), some (tN S), x4, none, none], [some (lT Ks), some (nI n), some (.ref h.length), some (tN S), some (lT (Ks.filter fun K => (K.filter fun x => decide (x ∈ S)).isEmpty)), none, none], rfl, ?_, ⟨_, _, rfl⟩⟩
    have hc3 : (h ++ [Cell.lst (acc.map tN)])[h.length]? = some (.lst (acc.map tN)) := c_at _ _
    have m0 : (eLc false (iAny (eVar 0)) (tgN 5) (bOp oEq (eCall fLen (aCons (eFn 2 F__law_common (aCons (eVar 5) (aCons (eVar 3) aNil))) aNil)) (eC (.int 0))) (eVar 5) [5]) [some (lT Ks), some (nI n), some (.ref h.length), some (tN S), x4, none, none] (h ++ [.lst (acc.map tN)]) = .ok (lT (Ks.filter fun K => (K.filter fun x => decide (x ∈ S)).isEmpty)) (h ++ [.lst (acc.map tN)]) :=
      lc_fil tN Ks (fun K => (K.filter fun x => decide (x ∈ S)).isEmpty) tN (iAny_lT (i := 0) rfl) (fun K _ c => ⟨[some (lT Ks), some (nI n), some (.ref h.length), some (tN S), x4, some (tN K), none], rfl, by
        have e1 := l_common K S (h ++ [.lst (acc.map tN)] ++ [c])
        have e2 := fLen_tN (K.filter fun x => decide (x ∈ S)) (h ++ [.lst (acc.map tN)] ++ [c])
        simp only [fnM, env0, sSeq, sSet, sRet, sRetN, sIf, sExpr, sNil, onR, eVar, eC, eOp, eAnd, eOr, eNot, eNeg, eIf, bAnd, bOr, bNot, bOp, bTru, asB, eChain, eCall, eFn, eFnD, eFnK, aCons, aNil, R.bind, List.length_cons, List.length_nil, List.replicate, List.map_cons, List.map_nil, List.cons_append, List.nil_append, List.getElem?_cons_zero, List.getElem?_cons_succ, List.set_cons_zero, List.set_cons_succ, wipeE, tgN, truth, bYes, pl_int, pl_bl, pl_non, pl_str, pl_tup, pl_lst, Nat.reduceAdd, Nat.reduceSub, Nat.reduceLT, if_true, Bool.true_and, Bool.and_true, Bool.not_true, Bool.not_false, Bool.false_eq_true, if_false, Nat.zero_add, truth_bl, fTuple_lst, fTuple_tup, e1, e2, nI, oEq_int, len_zero], rfl⟩) fun _ => rfl
    have m1 : (eLc false (iAny (eVar 2)) (tgN 6) (bTru (eFn 2 F__law_inside (aCons (eVar 6) (aCons (eVar 3) aNil)))) (eVar 6) [6]) [some (lT Ks), some (nI n), some (.ref h.length), some (tN S), some (lT (Ks.filter fun K => (K.filter fun x => decide (x ∈ S)).isEmpty)), none, none] (h ++ [.lst (acc.map tN)]) = .ok (lT (acc.filter fun T => T.all fun x => decide (x ∈ S))) (h ++ [.lst (acc.map tN)]) :=
      lc_typed tN acc (fun T => T.all fun x => decide (x ∈ S)) tN (iAny_cell (i := 2) rfl hc3) (fun c => srcOk_cell hc3 c) (fun T _ c => ⟨[some (lT Ks), some (nI n), some (.ref h.length), some (tN S), some (lT (Ks.filter fun K => (K.filter fun x => decide (x ∈ S)).isEmpty)), none, some (tN T)], rfl, by
        have := l_inside T S (h ++ [.lst (acc.map tN)] ++ [c])
        simp only [fnM, env0, sSeq, sSet, sRet, sRetN, sIf, sExpr, sNil, onR, eVar, eC, eOp, eAnd, eOr, eNot, eNeg, eIf, bAnd, bOr, bNot, bOp, bTru, asB, eChain, eCall, eFn, eFnD, eFnK, aCons, aNil, R.bind, List.length_cons, List.length_nil, List.replicate, List.map_cons, List.map_nil, List.cons_append, List.nil_append, List.getElem?_cons_zero, List.getElem?_cons_succ, List.set_cons_zero, List.set_cons_succ, wipeE, tgN, truth, bYes, pl_int, pl_bl, pl_non, pl_str, pl_tup, pl_lst, Nat.reduceAdd, Nat.reduceSub, Nat.reduceLT, if_true, Bool.true_and, Bool.and_true, Bool.not_true, Bool.not_false, Bool.false_eq_true, if_false, Nat.zero_add, truth_bl, fTuple_lst, fTuple_tup, this], fun _ => rfl⟩) fun _ => rfl
    have m2 := fLen_lT (Ks.filter fun K => (K.filter fun x => decide (x ∈ S)).isEmpty) (h ++ [.lst (acc.map tN)])
    have m3 := fLen_lT (acc.filter fun T => T.all fun x => decide (x ∈ S)) (h ++ [.lst (acc.map tN)])
    have m5 := app_tN h acc S hacc
    have e : (Ks.all fun K => S.any fun x => decide (x ∈ K)) = (Ks.filter fun K => (K.filter fun x => decide (x ∈ S)).isEmpty).isEmpty := by
      rw [fil_empty]
      congr 1
      funext K
      rw [fil_empty, all_not, Bool.not_not, any_swap]
    unfold hitF
    rw [e]
    simp only [fnM, env0, sSeq, sSet, sRet, sRetN, sIf, sExpr, sNil, onR, eVar, eC, eOp, eAnd, eOr, eNot, eNeg, eIf, bAnd, bOr, bNot, bOp, bTru, asB, eChain, eCall, eFn, eFnD, eFnK, aCons, aNil, R.bind, List.length_cons, List.length_nil, List.replicate, List.map_cons, List.map_nil, List.cons_append, List.nil_append, List.getElem?_cons_zero, List.getElem?_cons_succ, List.set_cons_zero, List.set_cons_succ, wipeE, tgN, truth, bYes, pl_int, pl_bl, pl_non, pl_str, pl_tup, pl_lst, Nat.reduceAdd, Nat.reduceSub, Nat.reduceLT, if_true, Bool.true_and, Bool.and_true, Bool.not_true, Bool.not_false, Bool.false_eq_true, if_false, Nat.zero_add, truth_bl, fTuple_lst, fTuple_tup, m0, m1, m2, m3, nI, oEq_int, len_zero]
    cases (Ks.filter fun K => (K.filter fun x => decide (x ∈ S)).isEmpty).isEmpty with
    | false => simp
    | true =>
      simp only [Bool.true_and, if_true, fil_empty, all_not]
      cases (acc.any fun T => T.all fun x => decide (x ∈ S)) with
      | true => simp
      | false => simp only [Bool.not_false, if_true, eMt, fnM, env0, sSeq, sSet, sRet, sRetN, sIf, sExpr, sNil, onR, eVar, eC, eOp, eAnd, eOr, eNot, eNeg, eIf, bAnd, bOr, bNot, bOp, bTru, asB, eChain, eCall, eFn, eFnD, eFnK, aCons, aNil, R.bind, List.length_cons, List.length_nil, List.replicate, List.map_cons, List.map_nil, List.cons_append, List.nil_append, List.getElem?_cons_zero, List.getElem?_cons_succ, List.set_cons_zero, List.set_cons_succ, wipeE, tgN, truth, bYes, pl_int, pl_bl, pl_non, pl_str, pl_tup, pl_lst, Nat.reduceAdd, Nat.reduceSub, Nat.reduceLT, if_true, Bool.true_and, Bool.and_true, Bool.not_true, Bool.not_false, Bool.false_eq_true, if_false, Nat.zero_add, truth_bl, fTuple_lst, fTuple_tup, asL_c, m5]) (xs := subs n) (fun S hS => mem_subs.mp hS) (env := [some (lT Ks), some (nI n), some (.ref h.length), none, none, none, none]) ⟨_, _, rfl⟩ (subs_len hn)
  have e4 := l_lots hn (h ++ [.lst []])
  have it : (iAny (eFn 1 F__law_lots (aCons (eVar 1) aNil))) [some (lT Ks), some (nI n), some (.ref h.length), none, none, none, none] (h ++ [.lst []]) = .ok ⟨(subs n).map tN, []⟩ (h ++ [.lst []]) := iAny_e (d := lT (subs n)) (by simp only [fnM, env0, sSeq, sSet, sRet, sRetN, sIf, sExpr, sNil, onR, eVar, eC, eOp, eAnd, eOr, eNot, eNeg, eIf, bAnd, bOr, bNot, bOp, bTru, asB, eChain, eCall, eFn, eFnD, eFnK, aCons, aNil, R.bind, List.length_cons, List.length_nil, List.replicate, List.map_cons, List.map_nil, List.cons_append, List.nil_append, List.getElem?_cons_zero, List.getElem?_cons_succ, List.set_cons_zero, List.set_cons_succ, wipeE, tgN, truth, bYes, pl_int, pl_bl, pl_non, pl_str, pl_tup, pl_lst, Nat.reduceAdd, Nat.reduceSub, Nat.reduceLT, if_true, Bool.true_and, Bool.and_true, Bool.not_true, Bool.not_false, Bool.false_eq_true, if_false, Nat.zero_add, truth_bl, fTuple_lst, fTuple_tup, e4]) (.inr rfl)
  have e6 : eLst true aNil [some (lT Ks), some (nI n), none, none, none, none, none] h = .ok (.ref h.length) (h ++ [.lst []]) := rfl
  simp only [F__law_hitting, m__law_hitting, fnM, env0, sSeq, sSet, sRet, sRetN, sIf, sExpr, sNil, onR, eVar, eC, eOp, eAnd, eOr, eNot, eNeg, eIf, bAnd, bOr, bNot, bOp, bTru, asB, eChain, eCall, eFn, eFnD, eFnK, aCons, aNil, R.bind, List.length_cons, List.length_nil, List.replicate, List.map_cons, List.map_nil, List.cons_append, List.nil_append, List.getElem?_cons_zero, List.getElem?_cons_succ, List.set_cons_zero, List.set_cons_succ, wipeE, tgN, truth, bYes, pl_int, pl_bl, pl_non, pl_str, pl_tup, pl_lst, Nat.reduceAdd, Nat.reduceSub, Nat.reduceLT, if_true, Bool.true_and, Bool.and_true, Bool.not_true, Bool.not_false, Bool.false_eq_true, if_false, Nat.zero_add, truth_bl, fTuple_lst, fTuple_tup, e6, sFor, it, loop]
  simp [finR, lT, hitL]
theorem l_ordered {n : Nat} (hn : n ≤ 8) (X : List (List Nat)) (h : Hpp) : F__law_ordered [lT X, nI n] h = .ok (lT ((subs n).filter fun S => decide (S ∈ X))) h := by
  have e4 := l_lots hn h
  have e : (eLc false (iAny (eFn 1 F__law_lots (aCons (eVar 1) aNil))) (tgN 2) (bOp (oIn false) (eVar 2) (eVar 0)) (eVar 2) [2]) [some (lT X), some (nI n), none] h = .ok (lT ((subs n).filter fun S => decide (S ∈ X))) h :=
    lc_fil tN (subs n) _ tN (iAny_e (d := lT (subs n)) (by simp only [fnM, env0, sSeq, sSet, sRet, sRetN, sIf, sExpr, sNil, onR, eVar, eC, eOp, eAnd, eOr, eNot, eNeg, eIf, bAnd, bOr, bNot, bOp, bTru, asB, eChain, eCall, eFn, eFnD, eFnK, aCons, aNil, R.bind, List.length_cons, List.length_nil, List.replicate, List.map_cons, List.map_nil, List.cons_append, List.nil_append, List.getElem?_cons_zero, List.getElem?_cons_succ, List.set_cons_zero, List.set_cons_succ, wipeE, tgN, truth, bYes, pl_int, pl_bl, pl_non, pl_str, pl_tup, pl_lst, Nat.reduceAdd, Nat.reduceSub, Nat.reduceLT, if_true, Bool.true_and, Bool.and_true, Bool.not_true, Bool.not_false, Bool.false_eq_true, if_false, Nat.zero_add, truth_bl, fTuple_lst, fTuple_tup, e4]) (.inr rfl)) (fun S _ c => ⟨[some (lT X), some (nI n), some (tN S)], rfl, by simp only [fnM, env0, sSeq, sSet, sRet, sRetN, sIf, sExpr, sNil, onR, eVar, eC, eOp, eAnd, eOr, eNot, eNeg, eIf, bAnd, bOr, bNot, bOp, bTru, asB, eChain, eCall, eFn, eFnD, eFnK, aCons, aNil, R.bind, List.length_cons, List.length_nil, List.replicate, List.map_cons, List.map_nil, List.cons_append, List.nil_append, List.getElem?_cons_zero, List.getElem?_cons_succ, List.set_cons_zero, List.set_cons_succ, wipeE, tgN, truth, bYes, pl_int, pl_bl, pl_non, pl_str, pl_tup, pl_lst, Nat.reduceAdd, Nat.reduceSub, Nat.reduceLT, if_true, Bool.true_and, Bool.and_true, Bool.not_true, Bool.not_false, Bool.false_eq_true, if_false, Nat.zero_add, truth_bl, fTuple_lst, fTuple_tup, oIn_lT], rfl⟩) fun _ => rfl
  simp only [F__law_ordered, m__law_ordered, fnM, env0, sSeq, sSet, sRet, sRetN, sIf, sExpr, sNil, onR, eVar, eC, eOp, eAnd, eOr, eNot, eNeg, eIf, bAnd, bOr, bNot, bOp, bTru, asB, eChain, eCall, eFn, eFnD, eFnK, aCons, aNil, R.bind, List.length_cons, List.length_nil, List.replicate, List.map_cons, List.map_nil, List.cons_append, List.nil_append, List.getElem?_cons_zero, List.getElem?_cons_succ, List.set_cons_zero, List.set_cons_succ, wipeE, tgN, truth, bYes, pl_int, pl_bl, pl_non, pl_str, pl_tup, pl_lst, Nat.reduceAdd, Nat.reduceSub, Nat.reduceLT, if_true, Bool.true_and, Bool.and_true, Bool.not_true, Bool.not_false, Bool.false_eq_true, if_false, Nat.zero_add, truth_bl, fTuple_lst, fTuple_tup, e]
  exact fin_same rfl
end Law
end
end
section
set_option Elab.async false
set_option linter.all false
set_option maxRecDepth 100000
set_option maxHeartbeats 400000
noncomputable section
namespace Law
open Nb
structure Fam (n : Nat) (c : (Nat → Bool) → Bool) : Prop where
  mono : ∀ s t, (∀ x, x < n → s x = true → t x = true) → c s = true → c t = true
theorem Fam.congr {n : Nat} {c : (Nat → Bool) → Bool} (f : Fam n c) {s t : Nat → Bool} (h : ∀ x, x < n → s x = t x) : c s = c t := by
  apply Bool.eq_iff_iff.mpr
  exact ⟨f.mono s t fun x hx e => by rw [← h x hx]; exact e, f.mono t s fun x hx e => by rw [h x hx]; exact e⟩
theorem Fam.neg {n : Nat} {c : (Nat → Bool) → Bool} (f : Fam n c) {s t : Nat → Bool} (h : ∀ x, x < n → s x = true → t x = true) (e : c t = false) : c s = false := by
  cases q : c s with
  | false => rfl
  | true => rw [f.mono s t h q] at e; cases e
theorem Fam.le {n m : Nat} {c : (Nat → Bool) → Bool} (f : Fam n c) (h : n ≤ m) : Fam m c := ⟨fun s t z => f.mono s t fun x hx => z x (by omega)⟩
theorem kernP_iff {n : Nat} {c : (Nat → Bool) → Bool} {S : List Nat} : kernP n c S = true ↔ c (fun y => decide (y ∈ S)) = true ∧ ∀ p ∈ S, c (fun y => decide (y ∈ S) && !decide (y = p)) = false := by
  simp [kernP]
theorem restP_iff {n : Nat} {c : (Nat → Bool) → Bool} {S : List Nat} : restP n c S = true ↔ c (fun y => decide (y ∈ S)) = false ∧ ∀ p, p < n → p ∉ S → c (fun y => decide (y ∈ S) || decide (y = p)) = true := by
  simp only [restP, Bool.and_eq_true, Bool.not_eq_true', List.all_eq_true, List.mem_filter, List.mem_range, decide_eq_false_iff_not, and_imp]
theorem mem_kernL {n : Nat} {c : (Nat → Bool) → Bool} {S : List Nat} : S ∈ kernL n c ↔ canon n S ∧ kernP n c S = true := by rw [kernL, List.mem_filter, mem_subs]
theorem mem_restsL {n : Nat} {c : (Nat → Bool) → Bool} {S : List Nat} : S ∈ restsL n c ↔ canon n S ∧ restP n c S = true := by rw [restsL, List.mem_filter, mem_subs]
theorem canon_fil {n : Nat} {S : List Nat} (p : Nat → Bool) (h : canon n S) : canon n (S.filter p) := ⟨h.1.filter p, fun x hx => h.2 x (List.mem_filter.mp hx).1⟩
theorem canon_rng (n : Nat) (p : Nat → Bool) : canon n ((List.range n).filter p) := ⟨List.pairwise_lt_range.filter p, fun x hx => List.mem_range.mp (List.mem_filter.mp hx).1⟩
theorem canon_eq {n : Nat} {S T : List Nat} (hS : canon n S) (hT : canon n T) (h : ∀ x, x ∈ S ↔ x ∈ T) : S = T := pair_uniq hS.1 hT.1 h
theorem min_ex {n : Nat} {c : (Nat → Bool) → Bool} (f : Fam n c) : ∀ (m : Nat) (S : List Nat), S.length ≤ m → canon n S → c (fun y => decide (y ∈ S)) = true → ∃ T, canon n T ∧ (∀ x ∈ T, x ∈ S) ∧ kernP n c T = true ∧ T.length ≤ S.length := by
  intro m
  induction m with
  | zero =>
    intro S hm hS hc
    have : S = [] := List.length_eq_zero_iff.mp (by omega)
    subst this
    exact ⟨[], hS, fun x hx => hx, kernP_iff.mpr ⟨hc, fun p hp => by simp at hp⟩, Nat.le_refl _⟩
  | succ m ih =>
    intro S hm hS hc
    by_cases hk : kernP n c S = true
    · exact ⟨S, hS, fun x hx => hx, hk, Nat.le_refl _⟩
    · have hex : ∃ p, p ∈ S ∧ c (fun y => decide (y ∈ S) && !decide (y = p)) = true := by
        refine Classical.byContradiction fun hn => hk (kernP_iff.mpr ⟨hc, fun p hp => ?_⟩)
        cases q : c (fun y => decide (y ∈ S) && !decide (y = p)) with
        | false => rfl
        | true => exact absurd ⟨p, hp, q⟩ hn
      obtain ⟨p, hp, hcp⟩ := hex
      have hlt : (S.filter fun y => !decide (y = p)).length < S.length := by
        rcases Nat.lt_or_ge (S.filter fun y => !decide (y = p)).length S.length with z | z
        · exact z
        · have e := List.Sublist.eq_of_length_le (List.filter_sublist (p := fun y => !decide (y = p)) (l := S)) z
          have : p ∈ S.filter fun y => !decide (y = p) := by rw [e]; exact hp
          simp at this
      have e : c (fun y => decide (y ∈ S.filter fun y => !decide (y = p))) = true := by
        rw [← hcp]
        congr 1
        funext y
        simp
      obtain ⟨T, h1, h2, h3, h4⟩ := ih (S.filter fun y => !decide (y = p)) (by omega) (canon_fil _ hS) e
      exact ⟨T, h1, fun x hx => (List.mem_filter.mp (h2 x hx)).1, h3, by omega⟩
/-- the kernels tell the family -/
theorem ker_gen {n : Nat} {c : (Nat → Bool) → Bool} (f : Fam n c) (t : Nat → Bool) : c t = (kernL n c).any fun K => K.all t := by
  apply Bool.eq_iff_iff.mpr
  rw [List.any_eq_true]
  constructor
  · intro h
    have e : c (fun y => decide (y ∈ (List.range n).filter t)) = true := by
      rw [← h]
      refine f.congr fun x hx => ?_
      cases q : t x <;> simp [hx, q]
    obtain ⟨T, h1, h2, h3, _⟩ := min_ex f _ _ (Nat.le_refl _) (canon_rng n t) e
    refine ⟨T, mem_kernL.mpr ⟨h1, h3⟩, List.all_eq_true.mpr fun x hx => (List.mem_filter.mp (h2 x hx)).2⟩
  · rintro ⟨K, hK, ha⟩
    obtain ⟨h1, h2⟩ := mem_kernL.mp hK
    exact f.mono _ _ (fun x _ hx => List.all_eq_true.mp ha x (of_decide_eq_true hx)) (kernP_iff.mp h2).1
/-- found in their order -/
theorem fold_min {n : Nat} {c : (Nat → Bool) → Bool} (f : Fam n c) {Cl : List (List Nat)} (hs : Cl.Pairwise before) (hm : ∀ S, S ∈ Cl ↔ canon n S ∧ c (fun y => decide (y ∈ S)) = true) : ∀ (xs2 xs1 : List (List Nat)), xs1 ++ xs2 = Cl → xs2.foldl minF (xs1.filter (kernP n c)) = Cl.filter (kernP n c)
  | [], xs1, e => by rw [List.append_nil] at e; rw [e]; rfl
  | S :: xs2, xs1, e => by
    rw [List.foldl_cons]
    have e2 : (xs1 ++ [S]) ++ xs2 = Cl := by rw [List.append_assoc]; exact e
    have ih := fold_min f hs hm xs2 (xs1 ++ [S]) e2
    rw [← ih]
    congr 1
    have hSC : S ∈ Cl := by rw [← e]; simp
    obtain ⟨hS, hcS⟩ := (hm S).mp hSC
    rw [← e, List.pairwise_append] at hs
    obtain ⟨_, hs2, hs3⟩ := hs
    rw [List.pairwise_cons] at hs2
    have key : (!(xs1.filter (kernP n c)).any fun T => T.all fun x => decide (x ∈ S)) = kernP n c S := by
      apply Bool.eq_iff_iff.mpr
      simp only [Bool.not_eq_true', List.any_eq_false, List.mem_filter, List.all_eq_true, decide_eq_true_eq]
      constructor
      · intro h
        refine kernP_iff.mpr ⟨hcS, fun p hp => ?_⟩
        cases q : c (fun y => decide (y ∈ S) && !decide (y = p)) with
        | false => rfl
        | true =>
          exfalso
          have e : c (fun y => decide (y ∈ S.filter fun y => !decide (y = p))) = true := by
            rw [← q]
            congr 1
            funext y
            simp
          obtain ⟨T, h1, h2, h3, h4⟩ := min_ex f _ _ (Nat.le_refl _) (canon_fil _ hS) e
          have hT : T ∈ Cl := (hm T).mpr ⟨h1, (kernP_iff.mp h3).1⟩
          have hpT : p ∉ T := fun z => by
            have := (List.mem_filter.mp (h2 p z)).2
            simp at this
          have hlt : T.length < S.length := by
            have hsub : (p :: T).length ≤ S.length := List.Nodup.length_le_of_subset (List.nodup_cons.mpr ⟨hpT, nodup_of_lt h1.1⟩) fun x hx => by
              rcases List.mem_cons.mp hx with z | z
              · rw [z]; exact hp
              · exact (List.mem_filter.mp (h2 x z)).1
            rw [List.length_cons] at hsub; omega
          rw [← e2, List.mem_append] at hT
          rcases hT with hT | hT
          · rcases List.mem_append.mp hT with hT | hT
            · exact h T ⟨hT, h3⟩ fun x hx => (List.mem_filter.mp (h2 x hx)).1
            · have : T = S := by simpa using hT
              rw [this] at hlt; omega
          · exact before_asym (hs2.1 T hT) (.inl hlt)
      · intro hk T ⟨hT, hkT⟩ hsub
        have hb := hs3 T hT S List.mem_cons_self
        have hTC : T ∈ Cl := by rw [← e]; exact List.mem_append_left _ hT
        obtain ⟨cT, ccT⟩ := (hm T).mp hTC
        have hex : ∃ p, p ∈ S ∧ p ∉ T := by
          refine Classical.byContradiction fun hn => ?_
          have : T = S := canon_eq cT hS fun x => ⟨fun z => hsub x z, fun z => Classical.byContradiction fun y => hn ⟨x, z, y⟩⟩
          rw [this] at hb
          exact before_irr _ hb
        obtain ⟨p, hp, hpT⟩ := hex
        have := (kernP_iff.mp hk).2 p hp
        rw [f.mono _ _ (fun x _ hx => by
          have hxT : x ∈ T := of_decide_eq_true hx
          have hne : x ≠ p := fun z => hpT (by rw [← z]; exact hxT)
          simp [hsub x hxT, hne]) ccT] at this
        cases this
    unfold minF
    rw [key, List.filter_append]
    cases hk : kernP n c S with
    | true => rw [if_pos rfl, List.filter_cons, if_pos hk]; rfl
    | false => rw [if_neg (by simp), List.filter_cons, if_neg (by simp [hk])]; simp
def famC (n : Nat) (c : (Nat → Bool) → Bool) : List (List Nat) := (subs n).filter fun S => c fun y => decide (y ∈ S)
theorem fold_kern {n : Nat} {c : (Nat → Bool) → Bool} (f : Fam n c) : (famC n c).foldl minF [] = kernL n c := by
  have h := fold_min f (Cl := famC n c) ((subs_sorted n).filter _) (fun S => by rw [famC, List.mem_filter, mem_subs]) (famC n c) [] rfl
  rw [List.filter_nil] at h
  rw [h, famC, List.filter_filter, kernL]
  refine List.filter_congr fun S _ => ?_
  unfold kernP
  cases c (fun y => decide (y ∈ S)) <;> simp
def hitC (Ks : List (List Nat)) (s : Nat → Bool) : Bool := Ks.all fun K => K.any s
theorem hit_fam {n : Nat} {Ks : List (List Nat)} (hK : ∀ K ∈ Ks, canon n K) : Fam n (hitC Ks) := ⟨fun s t h hs => by
  simp only [hitC, List.all_eq_true, List.any_eq_true] at hs ⊢
  intro K m
  obtain ⟨x, h1, h2⟩ := hs K m
  exact ⟨x, h1, h x ((hK K m).2 x h1) h2⟩⟩
theorem foldl_hit (Ks : List (List Nat)) : ∀ (xs acc : List (List Nat)), xs.foldl (hitF Ks) acc = (xs.filter fun S => hitC Ks fun y => decide (y ∈ S)).foldl minF acc
  | [], acc => rfl
  | S :: xs, acc => by
    have e : (Ks.all fun K => S.any fun x => decide (x ∈ K)) = hitC Ks fun y => decide (y ∈ S) := by
      unfold hitC
      congr 1
      funext K
      exact any_swap S K
    rw [List.foldl_cons, foldl_hit Ks xs, List.filter_cons]
    unfold hitF
    rw [e]
    cases hitC Ks (fun y => decide (y ∈ S)) with
    | false => simp
    | true => simp [minF]
theorem hitL_eq {n : Nat} {Ks : List (List Nat)} (hK : ∀ K ∈ Ks, canon n K) : hitL n Ks = kernL n (hitC Ks) := by
  rw [hitL, foldl_hit]
  exact fold_kern (hit_fam hK)
def dual (c : (Nat → Bool) → Bool) : (Nat → Bool) → Bool := fun s => !c fun x => !s x
theorem dual_dual (c : (Nat → Bool) → Bool) : dual (dual c) = c := by
  funext s
  simp [dual]
theorem dual_fam {n : Nat} {c : (Nat → Bool) → Bool} (f : Fam n c) : Fam n (dual c) := ⟨fun s t h hs => by
  simp only [dual, Bool.not_eq_true'] at hs ⊢
  refine f.neg (fun x hx => ?_) hs
  have := h x hx
  cases q : s x <;> cases q' : t x <;> simp_all⟩
theorem hit_kern {n : Nat} {c : (Nat → Bool) → Bool} (f : Fam n c) : hitC (kernL n c) = dual c := by
  funext s
  unfold hitC dual
  rw [ker_gen f]
  rw [← all_not]
  congr 1
  funext K
  rw [all_not, Bool.not_not]
theorem coL_mem {n : Nat} {S : List Nat} {x : Nat} : x ∈ coL n S ↔ x < n ∧ x ∉ S := by simp [coL]
theorem coL_canon (n : Nat) (S : List Nat) : canon n (coL n S) := canon_rng n _
theorem coL_coL {n : Nat} {S : List Nat} (h : canon n S) : coL n (coL n S) = S := canon_eq (coL_canon _ _) h fun x => by
  rw [coL_mem, coL_mem]
  constructor
  · rintro ⟨h1, h2⟩
    exact Classical.byContradiction fun h3 => h2 ⟨h1, h3⟩
  · intro h1
    exact ⟨h.2 x h1, fun h2 => h2.2 h1⟩
theorem rest_dual {n : Nat} {c : (Nat → Bool) → Bool} (f : Fam n c) (S : List Nat) : restP n c S = kernP n (dual c) (coL n S) := by
  unfold restP kernP
  have e1 : dual c (fun y => decide (y ∈ coL n S)) = !c fun y => decide (y ∈ S) := by
    unfold dual
    congr 1
    refine f.congr fun x hx => ?_
    by_cases h : x ∈ S <;> simp [coL_mem, h, hx]
  rw [e1, ← all_not]
  congr 1
  show (coL n S).all _ = (coL n S).all _
  congr 1
  funext p
  unfold dual
  rw [Bool.not_not]
  refine f.congr fun x hx => ?_
  by_cases h : x ∈ S <;> by_cases e : x = p <;> simp [coL_mem, h, hx, e]
theorem rest_mem {n : Nat} {c : (Nat → Bool) → Bool} (f : Fam n c) {S : List Nat} (hS : canon n S) : S ∈ restsL n c ↔ coL n S ∈ kernL n (dual c) := by
  rw [mem_restsL, mem_kernL, rest_dual f]
  exact ⟨fun h => ⟨coL_canon _ _, h.2⟩, fun h => ⟨hS, h.2⟩⟩
theorem hit_kernels {n : Nat} {c : (Nat → Bool) → Bool} (f : Fam n c) : hitL n (kernL n c) = kernL n (dual c) := by
  rw [hitL_eq fun K hK => (mem_kernL.mp hK).1, hit_kern f]
theorem hit_ordered {n : Nat} {c : (Nat → Bool) → Bool} (f : Fam n c) : ((subs n).filter fun S => decide (S ∈ (hitL n (kernL n c)).map (coL n))) = restsL n c := by
  rw [restsL]
  refine List.filter_congr fun S hS => ?_
  have hS' := mem_subs.mp hS
  apply Bool.eq_iff_iff.mpr
  rw [decide_eq_true_eq, hit_kernels f, List.mem_map]
  have := rest_mem f hS'
  rw [mem_restsL] at this
  constructor
  · rintro ⟨T, h1, rfl⟩
    have h2 := this.mpr (by rw [coL_coL (mem_kernL.mp h1).1]; exact h1)
    exact h2.2
  · intro h
    exact ⟨coL n S, this.mp ⟨hS', h⟩, coL_coL hS'⟩
theorem hitC_congr {A B : List (List Nat)} (h : ∀ x, x ∈ A ↔ x ∈ B) : hitC A = hitC B := by
  funext s
  unfold hitC
  apply Bool.eq_iff_iff.mpr
  simp only [List.all_eq_true]
  exact ⟨fun z x hx => z x ((h x).mpr hx), fun z x hx => z x ((h x).mp hx)⟩
theorem mem_coRests {n : Nat} {c : (Nat → Bool) → Bool} (f : Fam n c) (T : List Nat) : T ∈ (restsL n c).map (coL n) ↔ T ∈ kernL n (dual c) := by
  rw [List.mem_map]
  constructor
  · rintro ⟨R, hR, rfl⟩
    exact (rest_mem f (mem_restsL.mp hR).1).mp hR
  · intro hT
    have hc := (mem_kernL.mp hT).1
    exact ⟨coL n T, (rest_mem f (coL_canon _ _)).mpr (by rw [coL_coL hc]; exact hT), coL_coL hc⟩
theorem hit_rests {n : Nat} {c : (Nat → Bool) → Bool} (f : Fam n c) : hitL n ((restsL n c).map (coL n)) = kernL n c := by
  rw [hitL_eq fun K hK => by
    obtain ⟨R, _, rfl⟩ := List.mem_map.mp hK
    exact coL_canon _ _]
  rw [hitC_congr (mem_coRests f), hit_kern (dual_fam f), dual_dual]
theorem shared_eq {n : Nat} {c : (Nat → Bool) → Bool} (f : Fam n c) : inNoL n (kernL n c) = inAllL n (restsL n c) := by
  unfold inNoL inAllL
  refine List.filter_congr fun p hp => ?_
  have hp := List.mem_range.mp hp
  apply Bool.eq_iff_iff.mpr
  simp only [Bool.not_eq_true', List.any_eq_false, List.all_eq_true, decide_eq_true_eq]
  constructor
  · intro h R hR
    refine Classical.byContradiction fun hpR => ?_
    obtain ⟨h1, h2⟩ := mem_restsL.mp hR
    obtain ⟨h3, h4⟩ := restP_iff.mp h2
    have h5 := h4 p hp hpR
    rw [ker_gen f, List.any_eq_true] at h5
    obtain ⟨K, hK, ha⟩ := h5
    have h6 := f.mono _ (fun y => decide (y ∈ R)) (fun x hx hxK => by
      have hxK' : x ∈ K := of_decide_eq_true hxK
      have h7 := List.all_eq_true.mp ha x hxK'
      have hne : x ≠ p := fun z => h K hK (by rw [← z]; exact hxK')
      simpa [hne] using h7) (kernP_iff.mp (mem_kernL.mp hK).2).1
    rw [h3] at h6; cases h6
  · intro h K hK hpK
    obtain ⟨h1, h2⟩ := mem_kernL.mp hK
    obtain ⟨h3, h4⟩ := kernP_iff.mp h2
    have h5 := h4 p hpK
    have h6 : dual c (fun x => !(decide (x ∈ K) && !decide (x = p))) = true := by
      unfold dual
      simp only [Bool.not_not, Bool.not_eq_true']
      exact h5
    rw [ker_gen (dual_fam f), List.any_eq_true] at h6
    obtain ⟨T, hT, ha⟩ := h6
    obtain ⟨R, hR, hRT⟩ := List.mem_map.mp ((mem_coRests f T).mpr hT)
    have hpT : p ∉ T := fun z => by
      rw [← hRT, coL_mem] at z
      exact z.2 (h R hR)
    have h7 := (dual_fam f).mono _ (fun x => !decide (x ∈ K)) (fun x hx hxT => by
      have hxT' : x ∈ T := of_decide_eq_true hxT
      have h8 := List.all_eq_true.mp ha x hxT'
      have hne : x ≠ p := fun z => hpT (by rw [← z]; exact hxT')
      simpa [hne] using h8) (kernP_iff.mp (mem_kernL.mp hT).2).1
    unfold dual at h7
    simp only [Bool.not_not, Bool.not_eq_true'] at h7
    rw [h3] at h7; cases h7
theorem kern_inj {n : Nat} {c d : (Nat → Bool) → Bool} (f : Fam n c) (g : Fam n d) (h : kernL n c = kernL n d) : c = d := by
  funext t
  rw [ker_gen f, ker_gen g, h]
theorem fam_inj {n : Nat} {c d : (Nat → Bool) → Bool} (f : Fam n c) (g : Fam n d) (h : famC n c = famC n d) : c = d := by
  refine kern_inj f g ?_
  rw [← fold_kern f, ← fold_kern g, h]
theorem rest_inj {n : Nat} {c d : (Nat → Bool) → Bool} (f : Fam n c) (g : Fam n d) (h : restsL n c = restsL n d) : c = d := by
  refine kern_inj f g ?_
  rw [← hit_rests f, ← hit_rests g, h]
theorem same_rest {n : Nat} {c d : (Nat → Bool) → Bool} (f : Fam n c) (g : Fam n d) : restsL n c = restsL n d ↔ famC n c = famC n d := ⟨fun h => by rw [rest_inj f g h], fun h => by rw [fam_inj f g h]⟩
theorem same_kern {n : Nat} {c d : (Nat → Bool) → Bool} (f : Fam n c) (g : Fam n d) : kernL n c = kernL n d ↔ famC n c = famC n d := ⟨fun h => by rw [kern_inj f g h], fun h => by rw [fam_inj f g h]⟩
theorem kern_more {n m : Nat} {c : (Nat → Bool) → Bool} (f : Fam n c) (h : n ≤ m) : kernL m c = kernL n c := by
  refine before_uniq ((subs_sorted m).filter _) ((subs_sorted n).filter _) fun S => ?_
  show S ∈ kernL m c ↔ S ∈ kernL n c
  rw [mem_kernL, mem_kernL]
  constructor
  · rintro ⟨h1, h2⟩
    obtain ⟨h3, h4⟩ := kernP_iff.mp h2
    refine ⟨⟨h1.1, fun p hp => Classical.byContradiction fun hn => ?_⟩, h2⟩
    have h5 := h4 p hp
    rw [f.congr (t := fun y => decide (y ∈ S)) fun x hx => by
      have : x ≠ p := by omega
      simp [this], h3] at h5
    cases h5
  · rintro ⟨h1, h2⟩
    exact ⟨⟨h1.1, fun x hx => Nat.lt_of_lt_of_le (h1.2 x hx) h⟩, h2⟩
theorem lexN_tail {t : List Nat} : ∀ {a b : List Nat}, a.length = b.length → lexN a b = true → lexN (a ++ t) (b ++ t) = true := fun {a b} h e => by
  rcases lexN_apps (t := t) h with z | z
  · rw [z]; exact e
  · rw [z, lexN_irr] at e; cases e
theorem canon_tail {n m : Nat} (h : n ≤ m) {S : List Nat} (hS : canon n S) : canon m (S ++ List.range' n (m - n)) := by
  refine ⟨?_, fun x hx => ?_⟩
  · rw [List.pairwise_append]
    refine ⟨hS.1, List.pairwise_lt_range', fun a ha b hb => ?_⟩
    have := hS.2 a ha
    have := (List.mem_range'_1.mp hb).1
    omega
  · rcases List.mem_append.mp hx with z | z
    · exact Nat.lt_of_lt_of_le (hS.2 x z) h
    · have := List.mem_range'_1.mp z; omega
theorem rest_more {n m : Nat} {c : (Nat → Bool) → Bool} (f : Fam n c) (h : n ≤ m) : restsL m c = (restsL n c).map fun S => S ++ List.range' n (m - n) := by
  refine before_uniq ((subs_sorted m).filter _) ?_ fun S => ?_
  · rw [List.pairwise_map]
    refine ((subs_sorted n).filter _).imp fun {a b} hab => ?_
    rcases hab with z | ⟨z1, z2⟩
    · exact .inl (by rw [List.length_append, List.length_append]; omega)
    · exact .inr ⟨by rw [List.length_append, List.length_append, z1], lexN_tail z1 z2⟩
  · show S ∈ restsL m c ↔ _
    rw [mem_restsL, List.mem_map]
    constructor
    · rintro ⟨h1, h2⟩
      obtain ⟨h3, h4⟩ := restP_iff.mp h2
      have hall : ∀ p, n ≤ p → p < m → p ∈ S := fun p hp hpm => Classical.byContradiction fun hn => by
        have h5 := h4 p hpm hn
        rw [f.congr (t := fun y => decide (y ∈ S)) fun x hx => by
          have : x ≠ p := by omega
          simp [this], h3] at h5
        cases h5
      have hc : canon n (S.filter fun x => decide (x < n)) := ⟨h1.1.filter _, fun x hx => of_decide_eq_true (List.mem_filter.mp hx).2⟩
      refine ⟨S.filter fun x => decide (x < n), mem_restsL.mpr ⟨hc, restP_iff.mpr ⟨?_, fun p hp hpS => ?_⟩⟩, canon_eq (canon_tail h hc) h1 fun x => ?_⟩
      · rw [← h3]
        exact f.congr fun x hx => by simp [hx]
      · rw [← h4 p (by omega) fun z => hpS (List.mem_filter.mpr ⟨z, by simpa using hp⟩)]
        exact f.congr fun x hx => by simp [hx]
      · rw [List.mem_append, List.mem_filter, List.mem_range'_1]
        constructor
        · rintro (z | z)
          · exact z.1
          · exact hall x z.1 (by omega)
        · intro hx
          have := h1.2 x hx
          by_cases hxn : x < n
          · exact .inl ⟨hx, by simpa using hxn⟩
          · exact .inr (by omega)
    · rintro ⟨R, hR, rfl⟩
      obtain ⟨h1, h2⟩ := mem_restsL.mp hR
      obtain ⟨h3, h4⟩ := restP_iff.mp h2
      have hmem : ∀ x, x < n → (x ∈ R ++ List.range' n (m - n) ↔ x ∈ R) := fun x hx => by
        rw [List.mem_append, List.mem_range'_1]
        exact ⟨fun z => z.elim id fun y => by omega, .inl⟩
      refine ⟨canon_tail h h1, restP_iff.mpr ⟨?_, fun p hp hpS => ?_⟩⟩
      · rw [← h3]
        exact f.congr fun x hx => decide_eq_decide.mpr (hmem x hx)
      · have hpn : p < n := Classical.byContradiction fun z => hpS (List.mem_append_right _ (List.mem_range'_1.mpr (by omega)))
        rw [← h4 p hpn fun z => hpS (List.mem_append_left _ z)]
        exact f.congr fun x hx => by
          have := hmem x hx
          simp only [this]
end Law
end
end
section
set_option Elab.async false
set_option linter.all false
set_option maxRecDepth 100000
set_option maxHeartbeats 400000
noncomputable section
namespace Law
open Nb
abbrev iD (ds : List Int) : Cell := .lst (ds.map D.int)
theorem app_int (h : Hpp) (ds : List Int) (x : Int) (hl : ds.length < 100000) : fAppend (.ref h.length) [.int x] (h ++ [iD ds]) = .ok .non (h ++ [iD (ds ++ [x])]) := by
  rw [app_c h _ _ rfl (by rw [List.length_map]; omega)]
  simp [iD]
theorem app_int0 (ds : List Int) (x : Int) (hl : ds.length < 100000) : fAppend (.ref 0) [.int x] [iD ds] = .ok .non [iD (ds ++ [x])] := app_int [] ds x hl
theorem asL_0 (ds : List Int) (hs : Hpp) : asL (.ref 0) (iD ds :: hs) = some (ds.map D.int) := rfl
theorem asS_0 (ds : List Int) (hs : Hpp) : asS (.ref 0) (iD ds :: hs) = some (ds.map D.int) := rfl
theorem oMod_int (i j : Int) (h : Hpp) (hj : 0 < j) : oMod (.int i) (.int j) h = .ok (.int (i % j)) h := by
  simp only [oMod, oI, decide_eq_true hj, if_true]
theorem oDiv_30 (i : Int) (h : Hpp) : oDiv (.int i) (.int 30) h = .ok (.int (i / 30)) h := nd rfl
theorem oMul_r (i j : Int) (h : Hpp) (h1 : -(2 ^ 64) < j) (h2 : j < 2 ^ 64) : oMul (.int i) (.int j) h = .ok (.int (i * j)) h := by
  have e : decide (-(2 ^ 64) < j ∧ j < 2 ^ 64) = true := decide_eq_true ⟨h1, h2⟩
  simp only [oMul, oI, e, Bool.or_true, if_true]
theorem oAdd_int (i j : Int) (h : Hpp) : oAdd (.int i) (.int j) h = .ok (.int (i + j)) h := nd rfl
theorem oSub_int (i j : Int) (h : Hpp) : oSub (.int i) (.int j) h = .ok (.int (i - j)) h := nd rfl
theorem fInt_int (i : Int) (h : Hpp) : fInt [.int i] h = .ok (.int i) h := nd rfl
theorem md (m : Int) (hm : 0 < m) (hm2 : m < 4294967296) (x : Int) : ∃ r, (∀ h, oMod (.int x) (.int m) h = .ok (.int r) h) ∧ 0 ≤ r ∧ r < 4294967296 :=
  ⟨x % m, fun h => oMod_int _ _ _ hm, Int.emod_nonneg x (by omega), Int.lt_trans (Int.emod_lt_of_pos x hm) hm2⟩
theorem mulA (x : Int) (h : Hpp) (h1 : 0 ≤ x) (h2 : x < 4294967296) : oMul (.int x) (.int x) h = .ok (.int (x * x)) h := oMul_r _ _ _ (by omega) (by omega)
theorem mulB (x : Int) (h : Hpp) : oMul (.int x) (.int 90001) h = .ok (.int (x * 90001)) h := oMul_r _ _ _ (by omega) (by omega)
theorem mulC (x : Int) (h : Hpp) : oMul (.int x) (.int 43) h = .ok (.int (x * 43)) h := oMul_r _ _ _ (by omega) (by omega)
theorem mulD (x : Int) (h : Hpp) : oMul (.int x) (.int 48271) h = .ok (.int (x * 48271)) h := oMul_r _ _ _ (by omega) (by omega)
theorem mulE (x : Int) (h : Hpp) : oMul (.int x) (.int 6007) h = .ok (.int (x * 6007)) h := oMul_r _ _ _ (by omega) (by omega)
theorem pow18 (h : Hpp) : oPow (.int 10) (.int 18) h = .ok (.int 1000000000000000000) h := nd rfl
abbrev drawA : SM := (sIf (bOp (oCmp (fun i j => decide (j < i))) (eVar 3) (eC (.int 0))) (sSeq (sExpr (eMt (eVar 1) (aCons (eOp oMod (eCall fInt (aCons (eVar 3) aNil)) (eC (.int 30))) aNil) fAppend))
  (sSet 3 (eOp oDiv (eVar 3) (eC (.int 30))))) sNil)
abbrev drawB (m2 : Int) : SM := (sSeq (sSet 5 (eOp oMod (eCall fInt (aCons (eOp oAdd (eOp oAdd (eOp oAdd (eOp oMul (eVar 5) (eVar 5)) (eOp oMul (eVar 4) (eC (.int 90001)))) (eOp oMul (eVar 2) (eC (.int 43)))) (eC (.int 3))) aNil)) (eC (.int m2))))
  (sExpr (eMt (eVar 1) (aCons (eVar 5) aNil) fAppend)))
theorem draw_A (d : D) (i v : Int) (x4 x5 : Option D) (ds : List Int) (hl : ds.length < 90000) : ∃ v' x4' ds', forGo [] (tgN 4) drawA ((List.range 50).map nI) [some d, some (.ref 0), some (.int i), some (.int v), x4, x5] [iD ds] = .nx [some d, some (.ref 0), some (.int i), some (.int v'), x4', x5] [iD ds'] ∧ ds'.length ≤ ds.length + 50 := by
  obtain ⟨e2, h2, q, v', x4', ds', q2, q3, q4⟩ := forGo_rng (t := tgN 4) (body := drawA) (env := [some d, some (.ref 0), some (.int i), some (.int v), x4, x5]) (hh := [iD ds]) 50 (fun j env hh => ∃ v' x4' ds', env = [some d, some (.ref 0), some (.int i), some (.int v'), x4', x5] ∧ hh = [iD ds'] ∧ ds'.length ≤ ds.length + j) (fun j env hh hj ⟨v', x4', ds', i1, i2, i3⟩ => by
    subst i1; subst i2
    have m1 := app_int0 ds' (v' % 30) (by omega)
    by_cases hv : 0 < v'
    · refine ⟨[some d, some (.ref 0), some (.int i), some (.int v'), some (nI j), x5], [some d, some (.ref 0), some (.int i), some (.int (v' / 30)), some (nI j), x5], [iD (ds' ++ [v' % 30])], rfl, ?_, _, _, _, rfl, rfl, by rw [List.length_append, List.length_singleton]; omega⟩
      simp only [drawA, fnM, env0, sSeq, sSet, sRet, sRetN, sIf, sExpr, sNil, onR, eVar, eC, eOp, eAnd, eOr, eNot, eNeg, eIf, bAnd, bOr, bNot, bOp, bTru, asB, eChain, eCall, eFn, eFnD, eFnK, aCons, aNil, R.bind, List.length_cons, List.length_nil, List.replicate, List.map_cons, List.map_nil, List.cons_append, List.nil_append, List.getElem?_cons_zero, List.getElem?_cons_succ, List.set_cons_zero, List.set_cons_succ, wipeE, tgN, truth, bYes, pl_int, pl_bl, pl_non, pl_str, pl_tup, pl_lst, Nat.reduceAdd, Nat.reduceSub, Nat.reduceLT, if_true, Bool.true_and, Bool.and_true, Bool.not_true, Bool.not_false, Bool.false_eq_true, if_false, Nat.zero_add, truth_bl, fTuple_lst, fTuple_tup, oCmp_int, hv, decide_true, eMt, asL_0, fInt_int, oMod_int _ 30 _ (by omega), m1, oDiv_30]
    · refine ⟨[some d, some (.ref 0), some (.int i), some (.int v'), some (nI j), x5], [some d, some (.ref 0), some (.int i), some (.int v'), some (nI j), x5], [iD ds'], rfl, ?_, _, _, _, rfl, rfl, by omega⟩
      simp only [drawA, fnM, env0, sSeq, sSet, sRet, sRetN, sIf, sExpr, sNil, onR, eVar, eC, eOp, eAnd, eOr, eNot, eNeg, eIf, bAnd, bOr, bNot, bOp, bTru, asB, eChain, eCall, eFn, eFnD, eFnK, aCons, aNil, R.bind, List.length_cons, List.length_nil, List.replicate, List.map_cons, List.map_nil, List.cons_append, List.nil_append, List.getElem?_cons_zero, List.getElem?_cons_succ, List.set_cons_zero, List.set_cons_succ, wipeE, tgN, truth, bYes, pl_int, pl_bl, pl_non, pl_str, pl_tup, pl_lst, Nat.reduceAdd, Nat.reduceSub, Nat.reduceLT, if_true, Bool.true_and, Bool.and_true, Bool.not_true, Bool.not_false, Bool.false_eq_true, if_false, Nat.zero_add, truth_bl, fTuple_lst, fTuple_tup, oCmp_int, hv, decide_false]) ⟨v, x4, ds, rfl, rfl, by omega⟩
  subst q2; subst q3
  exact ⟨v', x4', ds', q, q4⟩
theorem draw_Bs (m2 : Int) (hm : 0 < m2) (hm2 : m2 < 4294967296) (d v : D) (iz jz s : Int) (x4 : Option D) (ds : List Int) (hl : ds.length < 90000) (h1 : 0 ≤ s) (h2 : s < 4294967296) :
    ∃ r, drawB m2 [some d, some (.ref 0), some (.int iz), some v, some (.int jz), some (.int s)] [iD ds] = .nx [some d, some (.ref 0), some (.int iz), some v, some (.int jz), some (.int r)] [iD (ds ++ [r])] ∧ 0 ≤ r ∧ r < 4294967296 := by
  obtain ⟨r, m0, b1, b2⟩ := md m2 hm hm2 (s * s + jz * 90001 + iz * 43 + 3)
  have m1 := app_int0 ds r (by omega)
  have m2 := mulA s [iD ds] h1 h2
  refine ⟨r, ?_, b1, b2⟩
  simp only [drawB, fnM, env0, sSeq, sSet, sRet, sRetN, sIf, sExpr, sNil, onR, eVar, eC, eOp, eAnd, eOr, eNot, eNeg, eIf, bAnd, bOr, bNot, bOp, bTru, asB, eChain, eCall, eFn, eFnD, eFnK, aCons, aNil, R.bind, List.length_cons, List.length_nil, List.replicate, List.map_cons, List.map_nil, List.cons_append, List.nil_append, List.getElem?_cons_zero, List.getElem?_cons_succ, List.set_cons_zero, List.set_cons_succ, wipeE, tgN, truth, bYes, pl_int, pl_bl, pl_non, pl_str, pl_tup, pl_lst, Nat.reduceAdd, Nat.reduceSub, Nat.reduceLT, if_true, Bool.true_and, Bool.and_true, Bool.not_true, Bool.not_false, Bool.false_eq_true, if_false, Nat.zero_add, truth_bl, fTuple_lst, fTuple_tup, m2, mulB, mulC, oAdd_int, fInt_int, m0, eMt, asL_0, m1]
theorem draw_B (m2 : Int) (hm : 0 < m2) (hm2 : m2 < 4294967296) (d v : D) (iz : Int) (s : Int) (x4 : Option D) (ds : List Int) (hl : ds.length < 80000) (hs1 : 0 ≤ s) (hs2 : s < 4294967296) : ∃ s' x4' ds', forGo [] (tgN 4) (drawB m2) ((List.range 6).map nI) [some d, some (.ref 0), some (.int iz), some v, x4, some (.int s)] [iD ds] = .nx [some d, some (.ref 0), some (.int iz), some v, x4', some (.int s')] [iD ds'] ∧ ds'.length ≤ ds.length + 6 := by
  obtain ⟨e2, h2, q, s', x4', ds', q2, q3, q4, _⟩ := forGo_rng (t := tgN 4) (body := drawB m2) (env := [some d, some (.ref 0), some (.int iz), some v, x4, some (.int s)]) (hh := [iD ds]) 6 (fun j env hh => ∃ s' x4' ds', env = [some d, some (.ref 0), some (.int iz), some v, x4', some (.int s')] ∧ hh = [iD ds'] ∧ ds'.length ≤ ds.length + j ∧ 0 ≤ s' ∧ s' < 4294967296) (fun j env hh hj ⟨s', x4', ds', i1, i2, i3, i4, i5⟩ => by
    subst i1; subst i2
    obtain ⟨r, m1, b1, b2⟩ := draw_Bs m2 hm hm2 d v iz (j : Int) s' x4' ds' (by omega) i4 i5
    exact ⟨[some d, some (.ref 0), some (.int iz), some v, some (nI j), some (.int s')], [some d, some (.ref 0), some (.int iz), some v, some (nI j), some (.int r)], [iD (ds' ++ [r])], rfl, m1, _, _, _, rfl, rfl, by rw [List.length_append, List.length_singleton]; omega, b1, b2⟩) ⟨s, x4, ds, rfl, rfl, by omega, hs1, hs2⟩
  subst q2; subst q3
  exact ⟨s', x4', ds', q, q4⟩
theorem draw_key (m1 m2 P : Int) (pw : EM) (hm : 0 < m1) (hm2 : m1 < 4294967296) (hk : 0 < m2) (hk2 : m2 < 4294967296) (hp : ∀ env h, pw env h = .ok (.int P) h) (d : D) (iz : Int) (x4 x5 : Option D) (ds : List Int) (hl : ds.length < 80000) (v : Int) :
    ∃ e2 h2, ((sIf (bOp (oCmp (fun i j => decide (j ≤ i))) (eVar 3) pw) (sFor (iRg1 (aCons (eC (.int 50)) aNil)) (tgN 4) (sIf (bOp (oCmp (fun i j => decide (j < i))) (eVar 3) (eC (.int 0))) (sSeq (sExpr (eMt (eVar 1) (aCons (eOp oMod (eCall fInt (aCons (eVar 3) aNil)) (eC (.int 30))) aNil) fAppend))
  (sSet 3 (eOp oDiv (eVar 3) (eC (.int 30))))) sNil)) (sSeq (sSet 5 (eOp oMod (eCall fInt (aCons (eOp oAdd (eOp oAdd (eOp oMul (eVar 3) (eC (.int 48271))) (eOp oMul (eVar 2) (eC (.int 6007)))) (eC (.int 17))) aNil)) (eC (.int m1))))
  (sFor (iRg1 (aCons (eC (.int 6)) aNil)) (tgN 4) (sSeq (sSet 5 (eOp oMod (eCall fInt (aCons (eOp oAdd (eOp oAdd (eOp oAdd (eOp oMul (eVar 5) (eVar 5)) (eOp oMul (eVar 4) (eC (.int 90001)))) (eOp oMul (eVar 2) (eC (.int 43)))) (eC (.int 3))) aNil)) (eC (.int m2))))
  (sExpr (eMt (eVar 1) (aCons (eVar 5) aNil) fAppend))))))) [some d, some (.ref 0), some (.int iz), some (.int v), x4, x5] [iD ds] = .nx e2 h2 ∧ ∃ x2 x3 x4 x5 ds', e2 = [some d, some (.ref 0), x2, x3, x4, x5] ∧ h2 = [iD ds'] ∧ ds'.length ≤ ds.length + 50 := by
  by_cases hv : P ≤ v
  · obtain ⟨v', x4', ds', a1, a2⟩ := draw_A d iz v x4 x5 ds (by omega)
    refine ⟨[some d, some (.ref 0), some (.int iz), some (.int v'), x4', x5], [iD ds'], ?_, _, _, _, _, ds', rfl, rfl, by omega⟩
    have it : iRg1 (aCons (eC (.int 50)) aNil) [some d, some (.ref 0), some (.int iz), some (.int v), x4, x5] [iD ds] = .ok ⟨(List.range 50).map nI, []⟩ [iD ds] := iRg1_e (n := 50) (by omega) rfl
    simp only [drawA] at a1
    simp only [fnM, env0, sSeq, sSet, sRet, sRetN, sIf, sExpr, sNil, onR, eVar, eC, eOp, eAnd, eOr, eNot, eNeg, eIf, bAnd, bOr, bNot, bOp, bTru, asB, eChain, eCall, eFn, eFnD, eFnK, aCons, aNil, R.bind, List.length_cons, List.length_nil, List.replicate, List.map_cons, List.map_nil, List.cons_append, List.nil_append, List.getElem?_cons_zero, List.getElem?_cons_succ, List.set_cons_zero, List.set_cons_succ, wipeE, tgN, truth, bYes, pl_int, pl_bl, pl_non, pl_str, pl_tup, pl_lst, Nat.reduceAdd, Nat.reduceSub, Nat.reduceLT, if_true, Bool.true_and, Bool.and_true, Bool.not_true, Bool.not_false, Bool.false_eq_true, if_false, Nat.zero_add, truth_bl, fTuple_lst, fTuple_tup, hp, oCmp_int, hv, decide_true, sFor, it, a1]
  · obtain ⟨r, m0, b1, b2⟩ := md m1 hm hm2 (v * 48271 + iz * 6007 + 17)
    obtain ⟨s', x4', ds', a1, a2⟩ := draw_B m2 hk hk2 d (.int v) iz r x4 ds (by omega) b1 b2
    refine ⟨[some d, some (.ref 0), some (.int iz), some (.int v), x4', some (.int s')], [iD ds'], ?_, _, _, _, _, ds', rfl, rfl, by omega⟩
    have it : ∀ x5, iRg1 (aCons (eC (.int 6)) aNil) [some d, some (.ref 0), some (.int iz), some (.int v), x4, x5] [iD ds] = .ok ⟨(List.range 6).map nI, []⟩ [iD ds] := fun x5 => iRg1_e (n := 6) (by omega) rfl
    simp only [drawB] at a1
    simp only [fnM, env0, sSeq, sSet, sRet, sRetN, sIf, sExpr, sNil, onR, eVar, eC, eOp, eAnd, eOr, eNot, eNeg, eIf, bAnd, bOr, bNot, bOp, bTru, asB, eChain, eCall, eFn, eFnD, eFnK, aCons, aNil, R.bind, List.length_cons, List.length_nil, List.replicate, List.map_cons, List.map_nil, List.cons_append, List.nil_append, List.getElem?_cons_zero, List.getElem?_cons_succ, List.set_cons_zero, List.set_cons_succ, wipeE, tgN, truth, bYes, pl_int, pl_bl, pl_non, pl_str, pl_tup, pl_lst, Nat.reduceAdd, Nat.reduceSub, Nat.reduceLT, if_true, Bool.true_and, Bool.and_true, Bool.not_true, Bool.not_false, Bool.false_eq_true, if_false, Nat.zero_add, truth_bl, fTuple_lst, fTuple_tup, hp, oCmp_int, hv, decide_false, mulD, mulE, oAdd_int, fInt_int, m0, sFor, it, a1]
theorem draw_step (m1 m2 P : Int) (pw : EM) (hm : 0 < m1) (hm2 : m1 < 4294967296) (hk : 0 < m2) (hk2 : m2 < 4294967296) (hp : ∀ env h, pw env h = .ok (.int P) h) (d : D) (iz v : Int) (x2 x3 x4 x5 : Option D) (ds : List Int) (hl : ds.length < 80000) (e0 : oIx d (.int iz) [iD ds] = .ok (.int v) [iD ds]) :
    ∃ e2 h2, ((sSeq (sSet 3 (eCall fInt (aCons (eOp oIx (eVar 0) (eVar 2)) aNil)))
  (sSeq (sIf (bOp (oCmp (fun i j => decide (i < j))) (eVar 3) (eC (.int 0))) (sSet 3 (eOp oSub (eC (.int 7)) (eVar 3))) sNil)
  (sIf (bOp (oCmp (fun i j => decide (j ≤ i))) (eVar 3) pw) (sFor (iRg1 (aCons (eC (.int 50)) aNil)) (tgN 4) (sIf (bOp (oCmp (fun i j => decide (j < i))) (eVar 3) (eC (.int 0))) (sSeq (sExpr (eMt (eVar 1) (aCons (eOp oMod (eCall fInt (aCons (eVar 3) aNil)) (eC (.int 30))) aNil) fAppend))
  (sSet 3 (eOp oDiv (eVar 3) (eC (.int 30))))) sNil)) (sSeq (sSet 5 (eOp oMod (eCall fInt (aCons (eOp oAdd (eOp oAdd (eOp oMul (eVar 3) (eC (.int 48271))) (eOp oMul (eVar 2) (eC (.int 6007)))) (eC (.int 17))) aNil)) (eC (.int m1))))
  (sFor (iRg1 (aCons (eC (.int 6)) aNil)) (tgN 4) (sSeq (sSet 5 (eOp oMod (eCall fInt (aCons (eOp oAdd (eOp oAdd (eOp oAdd (eOp oMul (eVar 5) (eVar 5)) (eOp oMul (eVar 4) (eC (.int 90001)))) (eOp oMul (eVar 2) (eC (.int 43)))) (eC (.int 3))) aNil)) (eC (.int m2))))
  (sExpr (eMt (eVar 1) (aCons (eVar 5) aNil) fAppend))))))))) [some d, some (.ref 0), some (.int iz), x3, x4, x5] [iD ds] = .nx e2 h2 ∧ ∃ x2 x3 x4 x5 ds', e2 = [some d, some (.ref 0), x2, x3, x4, x5] ∧ h2 = [iD ds'] ∧ ds'.length ≤ ds.length + 50 := by
  have key := draw_key m1 m2 P pw hm hm2 hk hk2 hp d iz x4 x5 ds hl
  by_cases h0 : v < 0
  · obtain ⟨e2, h2, k1, k2⟩ := key (7 - v)
    refine ⟨e2, h2, ?_, k2⟩
    rw [← k1]
    simp only [fnM, env0, sSeq, sSet, sRet, sRetN, sIf, sExpr, sNil, onR, eVar, eC, eOp, eAnd, eOr, eNot, eNeg, eIf, bAnd, bOr, bNot, bOp, bTru, asB, eChain, eCall, eFn, eFnD, eFnK, aCons, aNil, R.bind, List.length_cons, List.length_nil, List.replicate, List.map_cons, List.map_nil, List.cons_append, List.nil_append, List.getElem?_cons_zero, List.getElem?_cons_succ, List.set_cons_zero, List.set_cons_succ, wipeE, tgN, truth, bYes, pl_int, pl_bl, pl_non, pl_str, pl_tup, pl_lst, Nat.reduceAdd, Nat.reduceSub, Nat.reduceLT, if_true, Bool.true_and, Bool.and_true, Bool.not_true, Bool.not_false, Bool.false_eq_true, if_false, Nat.zero_add, truth_bl, fTuple_lst, fTuple_tup, e0, fInt_int, oCmp_int, h0, decide_true, oSub_int]
  · obtain ⟨e2, h2, k1, k2⟩ := key v
    refine ⟨e2, h2, ?_, k2⟩
    rw [← k1]
    simp only [fnM, env0, sSeq, sSet, sRet, sRetN, sIf, sExpr, sNil, onR, eVar, eC, eOp, eAnd, eOr, eNot, eNeg, eIf, bAnd, bOr, bNot, bOp, bTru, asB, eChain, eCall, eFn, eFnD, eFnK, aCons, aNil, R.bind, List.length_cons, List.length_nil, List.replicate, List.map_cons, List.map_nil, List.cons_append, List.nil_append, List.getElem?_cons_zero, List.getElem?_cons_succ, List.set_cons_zero, List.set_cons_succ, wipeE, tgN, truth, bYes, pl_int, pl_bl, pl_non, pl_str, pl_tup, pl_lst, Nat.reduceAdd, Nat.reduceSub, Nat.reduceLT, if_true, Bool.true_and, Bool.and_true, Bool.not_true, Bool.not_false, Bool.false_eq_true, if_false, Nat.zero_add, truth_bl, fTuple_lst, fTuple_tup, e0, fInt_int, oCmp_int, h0, decide_false]
theorem l_draws (ns : List Int) (hn : ns.length ≤ 63) : ∃ ds : List Int, F__law_draws [.frl (ns.map D.int)] [] = .ok (.ref 0) [iD ds] := by
  obtain ⟨e2, h2, q, x2, x3, x4, x5, ds, q2, q3, q4⟩ := forGo_rng (t := tgN 2) (body := (sSeq (sSet 3 (eCall fInt (aCons (eOp oIx (eVar 0) (eVar 2)) aNil)))
  (sSeq (sIf (bOp (oCmp (fun i j => decide (i < j))) (eVar 3) (eC (.int 0))) (sSet 3 (eOp oSub (eC (.int 7)) (eVar 3))) sNil)
  (sIf (bOp (oCmp (fun i j => decide (j ≤ i))) (eVar 3) (eOp oPow (eC (.int 10)) (eC (.int 18)))) (sFor (iRg1 (aCons (eC (.int 50)) aNil)) (tgN 4) (sIf (bOp (oCmp (fun i j => decide (j < i))) (eVar 3) (eC (.int 0))) (sSeq (sExpr (eMt (eVar 1) (aCons (eOp oMod (eCall fInt (aCons (eVar 3) aNil)) (eC (.int 30))) aNil) fAppend))
  (sSet 3 (eOp oDiv (eVar 3) (eC (.int 30))))) sNil)) (sSeq (sSet 5 (eOp oMod (eCall fInt (aCons (eOp oAdd (eOp oAdd (eOp oMul (eVar 3) (eC (.int 48271))) (eOp oMul (eVar 2) (eC (.int 6007)))) (eC (.int 17))) aNil)) (eC (.int 2147483629))))
  (sFor (iRg1 (aCons (eC (.int 6)) aNil)) (tgN 4) (sSeq (sSet 5 (eOp oMod (eCall fInt (aCons (eOp oAdd (eOp oAdd (eOp oAdd (eOp oMul (eVar 5) (eVar 5)) (eOp oMul (eVar 4) (eC (.int 90001)))) (eOp oMul (eVar 2) (eC (.int 43)))) (eC (.int 3))) aNil)) (eC (.int 2147483587))))
  (sExpr (eMt (eVar 1) (aCons (eVar 5) aNil) fAppend))))))))) (env := [some (.frl (ns.map D.int)), some (.ref 0), none, none, none, none]) (hh := [iD []]) ns.length (fun i env hh => ∃ x2 x3 x4 x5 ds, env = [some (.frl (ns.map D.int)), some (.ref 0), x2, x3, x4, x5] ∧ hh = [iD ds] ∧ ds.length ≤ 50 * i) (fun i env hh hi ⟨x2, x3, x4, x5, ds, i1, i2, i3⟩ => by
    subst i1; subst i2
    obtain ⟨e2, h2, k1, y2, y3, y4, y5, ds', k2, k3, k4⟩ := draw_step 2147483629 2147483587 1000000000000000000 (eOp oPow (eC (.int 10)) (eC (.int 18))) (by decide) (by decide) (by decide) (by decide) (fun env h => pow18 h) (.frl (ns.map D.int)) (i : Int) (ns[i]'hi) x2 x3 x4 x5 ds (by omega) (oIx_row (l := ns.map D.int) rfl (by rw [List.getElem?_map, List.getElem?_eq_getElem hi]; rfl))
    exact ⟨[some (.frl (ns.map D.int)), some (.ref 0), some (nI i), x3, x4, x5], e2, h2, rfl, k1, y2, y3, y4, y5, ds', k2, k3, by omega⟩) ⟨none, none, none, none, [], rfl, rfl, by simp⟩
  subst q2; subst q3
  refine ⟨ds.reverse, ?_⟩
  have e1 : eLst true aNil [some (.frl (ns.map D.int)), none, none, none, none, none] [] = .ok (.ref 0) [iD []] := rfl
  have e2 : fLen [.frl (ns.map D.int)] [iD []] = .ok (nI ns.length) [iD []] := by simp [fLen, asS, asL]
  have e3 : fMin2 [nI ns.length, .int 63] [iD []] = .ok (nI ns.length) [iD []] := by
    have : ¬ ((63 : Int) < (ns.length : Int)) := by omega
    simp only [fMin2, fII, nI, this, if_false]
  have it : (iRg1 (aCons (eCall fMin2 (aCons (eCall fLen (aCons (eVar 0) aNil)) (aCons (eC (.int 63)) aNil))) aNil)) [some (.frl (ns.map D.int)), some (.ref 0), none, none, none, none] [iD []] = .ok ⟨(List.range ns.length).map nI, []⟩ [iD []] := iRg1_e (by omega) (by simp only [fnM, env0, sSeq, sSet, sRet, sRetN, sIf, sExpr, sNil, onR, eVar, eC, eOp, eAnd, eOr, eNot, eNeg, eIf, bAnd, bOr, bNot, bOp, bTru, asB, eChain, eCall, eFn, eFnD, eFnK, aCons, aNil, R.bind, List.length_cons, List.length_nil, List.replicate, List.map_cons, List.map_nil, List.cons_append, List.nil_append, List.getElem?_cons_zero, List.getElem?_cons_succ, List.set_cons_zero, List.set_cons_succ, wipeE, tgN, truth, bYes, pl_int, pl_bl, pl_non, pl_str, pl_tup, pl_lst, Nat.reduceAdd, Nat.reduceSub, Nat.reduceLT, if_true, Bool.true_and, Bool.and_true, Bool.not_true, Bool.not_false, Bool.false_eq_true, if_false, Nat.zero_add, truth_bl, fTuple_lst, fTuple_tup, e2, e3])
  have e4 : eRev true (eVar 1) [some (.frl (ns.map D.int)), some (.ref 0), x2, x3, x4, x5] [iD ds] = .ok (.ref 1) [iD ds, iD ds.reverse] := by
    simp [eRev, eVar, R.bind, fRev, asL_0, mkL, iD]
  simp only [F__law_draws, m__law_draws, fnM, env0, sSeq, sSet, sRet, sRetN, sIf, sExpr, sNil, onR, eVar, eC, eOp, eAnd, eOr, eNot, eNeg, eIf, bAnd, bOr, bNot, bOp, bTru, asB, eChain, eCall, eFn, eFnD, eFnK, aCons, aNil, R.bind, List.length_cons, List.length_nil, List.replicate, List.map_cons, List.map_nil, List.cons_append, List.nil_append, List.getElem?_cons_zero, List.getElem?_cons_succ, List.set_cons_zero, List.set_cons_succ, wipeE, tgN, truth, bYes, pl_int, pl_bl, pl_non, pl_str, pl_tup, pl_lst, Nat.reduceAdd, Nat.reduceSub, Nat.reduceLT, if_true, Bool.true_and, Bool.and_true, Bool.not_true, Bool.not_false, Bool.false_eq_true, if_false, Nat.zero_add, truth_bl, fTuple_lst, fTuple_tup, e1, sFor, it, q, e4]
  simp [finR]
end Law
end
end
section
set_option Elab.async false
set_option linter.all false
set_option maxRecDepth 100000
set_option maxHeartbeats 400000
noncomputable section
namespace Law
open Nb
theorem len_int0 {α : Type} (l : List α) : decide (((l.length : Nat) : Int) = 0) = l.isEmpty := len_zero l
theorem l_take (ds : List Int) {n : Nat} (hn : 0 < n) : ∃ t ds', t < n ∧ ∀ hs : Hpp, F__law_take [.ref 0, nI n] (iD ds :: hs) = .ok (nI t) (iD ds' :: hs) := by
  have e0 : ∀ hs : Hpp, fLen [.ref 0] (iD ds :: hs) = .ok (nI ds.length) (iD ds :: hs) := fun hs => by simp [fLen, asS_0]
  rcases List.eq_nil_or_concat ds with e | ⟨ds0, x, e⟩
  · subst e
    refine ⟨0, [], hn, fun hs => ?_⟩
    have e0' : fLen [.ref 0] (iD [] :: hs) = .ok (.int 0) (iD [] :: hs) := e0 hs
    simp only [F__law_take, m__law_take, fnM, env0, sSeq, sSet, sRet, sRetN, sIf, sExpr, sNil, onR, eVar, eC, eOp, eAnd, eOr, eNot, eNeg, eIf, bAnd, bOr, bNot, bOp, bTru, asB, eChain, eCall, eFn, eFnD, eFnK, aCons, aNil, R.bind, List.length_cons, List.length_nil, List.replicate, List.map_cons, List.map_nil, List.cons_append, List.nil_append, List.getElem?_cons_zero, List.getElem?_cons_succ, List.set_cons_zero, List.set_cons_succ, wipeE, tgN, truth, bYes, pl_int, pl_bl, pl_non, pl_str, pl_tup, pl_lst, Nat.reduceAdd, Nat.reduceSub, Nat.reduceLT, if_true, Bool.true_and, Bool.and_true, Bool.not_true, Bool.not_false, Bool.false_eq_true, if_false, Nat.zero_add, truth_bl, fTuple_lst, fTuple_tup, e0', oEq_int, decide_true]
    rw [finR_nr (d := .int 0) rfl]
    simp
  · rw [List.concat_eq_append] at e
    have hne : ds.isEmpty = false := by subst e; simp
    have h1 := Int.emod_nonneg x (show ((n : Nat) : Int) ≠ 0 by omega)
    have h2 := Int.emod_lt_of_pos x (show (0 : Int) < ((n : Nat) : Int) by omega)
    refine ⟨(x % (n : Int)).toNat, ds0, by omega, fun hs => ?_⟩
    have e1 : fPop (.ref 0) [] (iD ds :: hs) = .ok (.int x) (iD ds0 :: hs) := by
      subst e
      simp [fPop, Nb.cellOf, iD]
    have e2 : (((x % (n : Int)).toNat : Nat) : Int) = x % (n : Int) := by omega
    simp only [F__law_take, m__law_take, fnM, env0, sSeq, sSet, sRet, sRetN, sIf, sExpr, sNil, onR, eVar, eC, eOp, eAnd, eOr, eNot, eNeg, eIf, bAnd, bOr, bNot, bOp, bTru, asB, eChain, eCall, eFn, eFnD, eFnK, aCons, aNil, R.bind, List.length_cons, List.length_nil, List.replicate, List.map_cons, List.map_nil, List.cons_append, List.nil_append, List.getElem?_cons_zero, List.getElem?_cons_succ, List.set_cons_zero, List.set_cons_succ, wipeE, tgN, truth, bYes, pl_int, pl_bl, pl_non, pl_str, pl_tup, pl_lst, Nat.reduceAdd, Nat.reduceSub, Nat.reduceLT, if_true, Bool.true_and, Bool.and_true, Bool.not_true, Bool.not_false, Bool.false_eq_true, if_false, Nat.zero_add, truth_bl, fTuple_lst, fTuple_tup, e0, nI, oEq_int, len_zero, hne, eMt, asL_0, e1, fInt_int, oMod_int x (n : Int) _ (by omega), e2]
    rw [finR_nr rfl]
    simp
abbrev lotT (n : Nat) : D → Hpp → R (Option D) := lcTurn (tgN 2) (bOp oEq (eFn 2 F__law_take (aCons (eVar 0) (aCons (eC (.int 2)) aNil))) (eC (.int 1))) (eVar 2) [some (.ref 0), some (nI n), none]
theorem lot_go (n : Nat) (hs : Hpp) : ∀ (m k : Nat) (ds : List Int) (acc : List Nat), ∃ S ds', S.Pairwise (· < ·) ∧ (∀ x ∈ S, k ≤ x ∧ x < k + m) ∧ lcGo (hs.length + 1) [] (lotT n) (acc.map nI) ((List.range' k m).map nI) (iD ds :: (hs ++ [.lst (acc.map nI)])) = .ok ((acc ++ S).map nI) (iD ds' :: (hs ++ [.lst ((acc ++ S).map nI)]))
  | 0, k, ds, acc => ⟨[], ds, List.Pairwise.nil, fun x hx => by simp at hx, by
    rw [List.range'_zero, List.map_nil, lcGo, if_pos ⟨srcOk_nil _, by simp⟩, List.append_nil]⟩
  | m + 1, k, ds, acc => by
    obtain ⟨t, ds', ht, ht2⟩ := l_take ds (n := 2) (by omega)
    have e0 := ht2 (hs ++ [.lst (acc.map nI)])
    have e1 : lotT n (nI k) (iD ds :: (hs ++ [.lst (acc.map nI)])) = .ok (if t = 1 then some (nI k) else none) (iD ds' :: (hs ++ [.lst (acc.map nI)])) := by
      have e2 : (.int 2 : D) = nI 2 := rfl
      have e3 : decide ((t : Int) = 1) = decide (t = 1) := decide_eq_decide.mpr (by omega)
      unfold lotT lcTurn
      have e4 : tgN 2 (nI k) [some (D.ref 0), some (nI n), none] = some [some (.ref 0), some (nI n), some (nI k)] := rfl
      rw [e4]
      simp only [bOp, eOp, eFn, aCons, aNil, eVar, eC, R.bind, List.getElem?_cons_zero, List.getElem?_cons_succ, List.length_cons, List.length_nil, Nat.reduceAdd, if_true, e2, e0]
      simp only [nI, oEq_int, e3]
      by_cases h : t = 1 <;> simp [h]
    rw [List.range'_succ, List.map_cons, lcGo, if_pos (srcOk_nil _), e1]
    by_cases h : t = 1
    · obtain ⟨S, ds2, h1, h2, h3⟩ := lot_go n hs m (k + 1) ds' (acc ++ [k])
      refine ⟨k :: S, ds2, List.pairwise_cons.mpr ⟨fun y hy => by have := h2 y hy; omega, h1⟩, fun x hx => ?_, ?_⟩
      · rcases List.mem_cons.mp hx with z | z
        · subst z; omega
        · have := h2 x z; omega
      · simp only [if_pos h]
        have hg : (iD ds' :: (hs ++ [Cell.lst (acc.map nI)]))[hs.length + 1]? = some (.lst (acc.map nI)) := by simp
        have hset : (iD ds' :: (hs ++ [Cell.lst (acc.map nI)])).set (hs.length + 1) (.lst (acc.map nI ++ [nI k])) = iD ds' :: (hs ++ [Cell.lst ((acc ++ [k]).map nI)]) := by simp
        rw [if_pos ⟨rfl, hg⟩, hset]
        have e5 : acc.map nI ++ [nI k] = (acc ++ [k]).map nI := by simp
        rw [e5, h3]
        simp
    · obtain ⟨S, ds2, h1, h2, h3⟩ := lot_go n hs m (k + 1) ds' acc
      refine ⟨S, ds2, h1, fun x hx => by have := h2 x hx; omega, ?_⟩
      simp only [if_neg h]
      exact h3
theorem l_lot (ds : List Int) {n : Nat} (hn : n ≤ 100) (hs : Hpp) : ∃ S ds', canon n S ∧ F__law_lot [.ref 0, nI n] (iD ds :: hs) = .ok (tN S) (iD ds' :: hs) := by
  obtain ⟨S, ds', h1, h2, h3⟩ := lot_go n hs n 0 ds []
  rw [← List.range_eq_range'] at h3
  simp only [List.map_nil, List.nil_append] at h3
  refine ⟨S, ds', ⟨h1, fun x hx => by have := h2 x hx; omega⟩, ?_⟩
  have it : iRg1 (aCons (eVar 1) aNil) [some (.ref 0), some (nI n), none] (iD ds :: hs) = .ok ⟨(List.range n).map nI, []⟩ (iD ds :: hs) := iRg1_e (by omega) rfl
  have e : (eLc false (iRg1 (aCons (eVar 1) aNil)) (tgN 2) (bOp oEq (eFn 2 F__law_take (aCons (eVar 0) (aCons (eC (.int 2)) aNil))) (eC (.int 1))) (eVar 2) [2]) [some (.ref 0), some (nI n), none] (iD ds :: hs) = .ok (lN S) (iD ds' :: hs) := by
    unfold eLc
    rw [it]
    simp only [R.bind, List.length_cons]
    have e2 : wipeE [some (D.ref 0), some (nI n), none] [2] = [some (.ref 0), some (nI n), none] := rfl
    have e3 : (iD ds :: hs) ++ [Cell.lst []] = iD ds :: (hs ++ [.lst []]) := rfl
    rw [e2, e3, h3]
    simp [R.bind, lN]
  have e2 : fTuple [lN S] (iD ds' :: hs) = .ok (tN S) (iD ds' :: hs) := rfl
  simp only [F__law_lot, m__law_lot, fnM, env0, sSeq, sSet, sRet, sRetN, sIf, sExpr, sNil, onR, eVar, eC, eOp, eAnd, eOr, eNot, eNeg, eIf, bAnd, bOr, bNot, bOp, bTru, asB, eChain, eCall, eFn, eFnD, eFnK, aCons, aNil, R.bind, List.length_cons, List.length_nil, List.replicate, List.map_cons, List.map_nil, List.cons_append, List.nil_append, List.getElem?_cons_zero, List.getElem?_cons_succ, List.set_cons_zero, List.set_cons_succ, wipeE, tgN, truth, bYes, pl_int, pl_bl, pl_non, pl_str, pl_tup, pl_lst, Nat.reduceAdd, Nat.reduceSub, Nat.reduceLT, if_true, Bool.true_and, Bool.and_true, Bool.not_true, Bool.not_false, Bool.false_eq_true, if_false, Nat.zero_add, truth_bl, fTuple_lst, fTuple_tup, e, e2]
  rw [finR_nr rfl]
  simp
theorem l_short (ds : List Int) {n : Nat} (h0 : 0 < n) (hn : n ≤ 100) (hs : Hpp) : ∃ S ds', canon n S ∧ S.length < n ∧ F__law_short [.ref 0, nI n] (iD ds :: hs) = .ok (tN S) (iD ds' :: hs) := by
  obtain ⟨t, ds1, ht, e1⟩ := l_take ds h0
  obtain ⟨S, ds2, hS, e2⟩ := l_lot ds1 hn hs
  refine ⟨S.filter fun x => !decide (x = t), ds2, canon_fil _ hS, ?_, ?_⟩
  · have hsub : (t :: S.filter fun x => !decide (x = t)).length ≤ (List.range n).length := List.Nodup.length_le_of_subset (List.nodup_cons.mpr ⟨by simp, (nodup_of_lt hS.1).filter _⟩) fun x hx => by
      rcases List.mem_cons.mp hx with z | z
      · rw [z]; exact List.mem_range.mpr ht
      · exact List.mem_range.mpr (hS.2 x (List.mem_filter.mp z).1)
    rw [List.length_cons, List.length_range] at hsub
    omega
  · have e3 : (eLc false (iAny (eVar 3)) (tgN 4) (bOp oNe (eVar 4) (eVar 2)) (eVar 4) [4]) [some (.ref 0), some (nI n), some (nI t), some (tN S), none] (iD ds2 :: hs) = .ok (lN (S.filter fun x => !decide (x = t))) (iD ds2 :: hs) :=
      lc_fil nI S _ nI (iAny_tN (i := 3) rfl) (fun x _ c => ⟨[some (.ref 0), some (nI n), some (nI t), some (tN S), some (nI x)], rfl, by
        simp only [fnM, env0, sSeq, sSet, sRet, sRetN, sIf, sExpr, sNil, onR, eVar, eC, eOp, eAnd, eOr, eNot, eNeg, eIf, bAnd, bOr, bNot, bOp, bTru, asB, eChain, eCall, eFn, eFnD, eFnK, aCons, aNil, R.bind, List.length_cons, List.length_nil, List.replicate, List.map_cons, List.map_nil, List.cons_append, List.nil_append, List.getElem?_cons_zero, List.getElem?_cons_succ, List.set_cons_zero, List.set_cons_succ, wipeE, tgN, truth, bYes, pl_int, pl_bl, pl_non, pl_str, pl_tup, pl_lst, Nat.reduceAdd, Nat.reduceSub, Nat.reduceLT, if_true, Bool.true_and, Bool.and_true, Bool.not_true, Bool.not_false, Bool.false_eq_true, if_false, Nat.zero_add, truth_bl, fTuple_lst, fTuple_tup, nI, oNe_int, Int.ofNat_inj], rfl⟩) fun _ => rfl
    have e4 : fTuple [lN (S.filter fun x => !decide (x = t))] (iD ds2 :: hs) = .ok (tN (S.filter fun x => !decide (x = t))) (iD ds2 :: hs) := rfl
    simp only [F__law_short, m__law_short, fnM, env0, sSeq, sSet, sRet, sRetN, sIf, sExpr, sNil, onR, eVar, eC, eOp, eAnd, eOr, eNot, eNeg, eIf, bAnd, bOr, bNot, bOp, bTru, asB, eChain, eCall, eFn, eFnD, eFnK, aCons, aNil, R.bind, List.length_cons, List.length_nil, List.replicate, List.map_cons, List.map_nil, List.cons_append, List.nil_append, List.getElem?_cons_zero, List.getElem?_cons_succ, List.set_cons_zero, List.set_cons_succ, wipeE, tgN, truth, bYes, pl_int, pl_bl, pl_non, pl_str, pl_tup, pl_lst, Nat.reduceAdd, Nat.reduceSub, Nat.reduceLT, if_true, Bool.true_and, Bool.and_true, Bool.not_true, Bool.not_false, Bool.false_eq_true, if_false, Nat.zero_add, truth_bl, fTuple_lst, fTuple_tup, e1, e2, e3, e4]
    rw [finR_nr rfl]
    simp
theorem l_some (ds : List Int) {n : Nat} (h0 : 0 < n) (hn : n ≤ 100) (hs : Hpp) : ∃ S ds', canon n S ∧ F__law_some [.ref 0, nI n] (iD ds :: hs) = .ok (tN S) (iD ds' :: hs) := by
  obtain ⟨t, ds1, ht, e1⟩ := l_take ds h0
  obtain ⟨S, ds2, hS, e2⟩ := l_lot ds1 hn hs
  refine ⟨(List.range n).filter fun x => decide (x = t) || decide (x ∈ S), ds2, canon_rng n _, ?_⟩
  have e3 : (eLc false (iRg1 (aCons (eVar 1) aNil)) (tgN 4) (bOr (bOp oEq (eVar 4) (eVar 2)) (bOp (oIn false) (eVar 4) (eVar 3))) (eVar 4) [4]) [some (.ref 0), some (nI n), some (nI t), some (tN S), none] (iD ds2 :: hs) = .ok (lN ((List.range n).filter fun x => decide (x = t) || decide (x ∈ S))) (iD ds2 :: hs) :=
    lc_fil nI (List.range n) _ nI (iRg1_e (by omega) rfl) (fun x _ c => ⟨[some (.ref 0), some (nI n), some (nI t), some (tN S), some (nI x)], rfl, by
      have m := oIn_tN (iD ds2 :: (hs ++ [c])) false x S
      simp only [nI] at m
      simp only [fnM, env0, sSeq, sSet, sRet, sRetN, sIf, sExpr, sNil, onR, eVar, eC, eOp, eAnd, eOr, eNot, eNeg, eIf, bAnd, bOr, bNot, bOp, bTru, asB, eChain, eCall, eFn, eFnD, eFnK, aCons, aNil, R.bind, List.length_cons, List.length_nil, List.replicate, List.map_cons, List.map_nil, List.cons_append, List.nil_append, List.getElem?_cons_zero, List.getElem?_cons_succ, List.set_cons_zero, List.set_cons_succ, wipeE, tgN, truth, bYes, pl_int, pl_bl, pl_non, pl_str, pl_tup, pl_lst, Nat.reduceAdd, Nat.reduceSub, Nat.reduceLT, if_true, Bool.true_and, Bool.and_true, Bool.not_true, Bool.not_false, Bool.false_eq_true, if_false, Nat.zero_add, truth_bl, fTuple_lst, fTuple_tup, nI, oEq_int, Int.ofNat_inj, m]
      by_cases h : x = t <;> simp [h, m], rfl⟩) fun _ => rfl
  have e4 : fTuple [lN ((List.range n).filter fun x => decide (x = t) || decide (x ∈ S))] (iD ds2 :: hs) = .ok (tN ((List.range n).filter fun x => decide (x = t) || decide (x ∈ S))) (iD ds2 :: hs) := rfl
  simp only [F__law_some, m__law_some, fnM, env0, sSeq, sSet, sRet, sRetN, sIf, sExpr, sNil, onR, eVar, eC, eOp, eAnd, eOr, eNot, eNeg, eIf, bAnd, bOr, bNot, bOp, bTru, asB, eChain, eCall, eFn, eFnD, eFnK, aCons, aNil, R.bind, List.length_cons, List.length_nil, List.replicate, List.map_cons, List.map_nil, List.cons_append, List.nil_append, List.getElem?_cons_zero, List.getElem?_cons_succ, List.set_cons_zero, List.set_cons_succ, wipeE, tgN, truth, bYes, pl_int, pl_bl, pl_non, pl_str, pl_tup, pl_lst, Nat.reduceAdd, Nat.reduceSub, Nat.reduceLT, if_true, Bool.true_and, Bool.and_true, Bool.not_true, Bool.not_false, Bool.false_eq_true, if_false, Nat.zero_add, truth_bl, fTuple_lst, fTuple_tup, e1, e2, e3, e4]
  rw [finR_nr rfl]
  simp
end Law
end
end
section
set_option Elab.async false
set_option linter.all false
set_option maxRecDepth 100000
set_option maxHeartbeats 400000
noncomputable section
namespace Law
open Nb
theorem app_b (ds : List Int) (hs : Hpp) (acc : List (List Nat)) (S : List Nat) (hl : acc.length < 100000) : fAppend (.ref (hs.length + 1)) [tN S] (iD ds :: (hs ++ [.lst (acc.map tN)])) = .ok .non (iD ds :: (hs ++ [.lst ((acc ++ [S]).map tN)])) := app_tN (iD ds :: hs) acc S hl
theorem asL_b (ds : List Int) (hs : Hpp) (l : List D) : asL (.ref (hs.length + 1)) (iD ds :: (hs ++ [.lst l])) = some l := asL_c (iD ds :: hs) l
theorem asS_b (ds : List Int) (hs : Hpp) (l : List D) : asS (.ref (hs.length + 1)) (iD ds :: (hs ++ [.lst l])) = some l := asS_c (iD ds :: hs) l
theorem canon_nil (n : Nat) : canon n [] := ⟨List.Pairwise.nil, fun x hx => by simp at hx⟩
theorem canon_range (n : Nat) : canon n (List.range n) := ⟨List.pairwise_lt_range, fun x hx => List.mem_range.mp hx⟩
theorem base_step {w : Nat} (hw0 : 0 < w) (hw : w ≤ 100) (n : Nat) (hs : Hpp) (ds : List Int) (acc : List (List Nat)) (hc : ∀ S ∈ acc, canon w S) (hl : acc.length < 1000) (d5 : D) (x6 : Option D) :
    ∃ S ds' y6, canon w S ∧ (sSeq (sSet 6 (eFn 2 F__law_take (aCons (eVar 0) (aCons (eC (.int 6)) aNil))))
  (sIf (bAnd (bOp oEq (eVar 6) (eC (.int 5))) (bOp (oCmp (fun i j => decide (j < i))) (eCall fLen (aCons (eVar 4) aNil)) (eC (.int 0)))) (sExpr (eMt (eVar 4) (aCons (eOp oIx (eVar 4) (eFn 2 F__law_take (aCons (eVar 0) (aCons (eCall fLen (aCons (eVar 4) aNil)) aNil)))) aNil) fAppend)) (sIf (bAnd (bOp oEq (eVar 6) (eC (.int 4))) (bOp oEq (eVar 3) (eC (.int 0)))) (sExpr (eMt (eVar 4) (aCons (eTup aNil) aNil) fAppend)) (sIf (bOp oEq (eVar 6) (eC (.int 3))) (sExpr (eMt (eVar 4) (aCons (eTupRg (mRg1 (eVar 1))) aNil) fAppend)) (sExpr (eMt (eVar 4) (aCons (eFn 2 F__law_some (aCons (eVar 0) (aCons (eVar 1) aNil))) aNil) fAppend)))))) [some (.ref 0), some (nI w), some (nI n), some (.int 0), some (.ref (hs.length + 1)), some d5, x6] (iD ds :: (hs ++ [.lst (acc.map tN)])) = .nx [some (.ref 0), some (nI w), some (nI n), some (.int 0), some (.ref (hs.length + 1)), some d5, y6] (iD ds' :: (hs ++ [.lst ((acc ++ [S]).map tN)])) := by
  obtain ⟨t, ds1, ht, e1⟩ := l_take ds (n := 6) (by omega)
  have e1' : F__law_take [.ref 0, .int 6] (iD ds :: (hs ++ [.lst (acc.map tN)])) = .ok (.int (t : Int)) (iD ds1 :: (hs ++ [.lst (acc.map tN)])) := e1 (hs ++ [.lst (acc.map tN)])
  have elen : ∀ ds, fLen [.ref (hs.length + 1)] (iD ds :: (hs ++ [.lst (acc.map tN)])) = .ok (nI acc.length) (iD ds :: (hs ++ [.lst (acc.map tN)])) := fun ds => by simp [fLen, asS_b]
  have e5 : decide ((t : Int) = 5) = decide (t = 5) := decide_eq_decide.mpr (by omega)
  have e4 : decide ((t : Int) = 4) = decide (t = 4) := decide_eq_decide.mpr (by omega)
  have e3 : decide ((t : Int) = 3) = decide (t = 3) := decide_eq_decide.mpr (by omega)
  have ea : decide ((0 : Int) < (acc.length : Int)) = decide (0 < acc.length) := decide_eq_decide.mpr (by omega)
  by_cases h5 : t = 5 ∧ 0 < acc.length
  · obtain ⟨t2, ds2, ht2, q⟩ := l_take ds1 (n := acc.length) h5.2
    have q' := q (hs ++ [.lst (acc.map tN)])
    have e7 : oIx (.ref (hs.length + 1)) (nI t2) (iD ds2 :: (hs ++ [.lst (acc.map tN)])) = .ok (tN acc[t2]) (iD ds2 :: (hs ++ [.lst (acc.map tN)])) := oIx_row (l := acc.map tN) (asS_b _ _ _) (by rw [List.getElem?_map, List.getElem?_eq_getElem ht2]; rfl)
    have e8 := app_b ds2 hs acc acc[t2] (by omega)
    refine ⟨acc[t2], ds2, some (nI t), hc _ (List.getElem_mem _), ?_⟩
    simp only [nI] at q' elen e7
    have f5 : decide (t = 5) = true := decide_eq_true h5.1
    have f0 : decide (0 < acc.length) = true := decide_eq_true h5.2
    simp only [fnM, env0, sSeq, sSet, sRet, sRetN, sIf, sExpr, sNil, onR, eVar, eC, eOp, eAnd, eOr, eNot, eNeg, eIf, bAnd, bOr, bNot, bOp, bTru, asB, eChain, eCall, eFn, eFnD, eFnK, aCons, aNil, R.bind, List.length_cons, List.length_nil, List.replicate, List.map_cons, List.map_nil, List.cons_append, List.nil_append, List.getElem?_cons_zero, List.getElem?_cons_succ, List.set_cons_zero, List.set_cons_succ, wipeE, tgN, truth, bYes, pl_int, pl_bl, pl_non, pl_str, pl_tup, pl_lst, Nat.reduceAdd, Nat.reduceSub, Nat.reduceLT, if_true, Bool.true_and, Bool.and_true, Bool.not_true, Bool.not_false, Bool.false_eq_true, if_false, Nat.zero_add, truth_bl, fTuple_lst, fTuple_tup, nI, e1', oEq_int, e5, f5, elen, oCmp_int, ea, f0, eMt, asL_b, q', e7, e8]
  · have hA : (decide (t = 5) && decide (0 < acc.length)) = false := by
      cases q : decide (t = 5) <;> cases q2 : decide (0 < acc.length) <;> simp_all
    by_cases h4 : t = 4
    · have e8 := app_b ds1 hs acc [] (by omega)
      refine ⟨[], ds1, some (nI t), canon_nil w, ?_⟩
      have e9 : ∀ env h, eTup aNil env h = .ok (tN []) h := fun env h => rfl
      simp only [nI] at elen
      have f5 : decide (t = 5) = false := decide_eq_false (by omega)
      have f4 : decide (t = 4) = true := decide_eq_true h4
      simp only [fnM, env0, sSeq, sSet, sRet, sRetN, sIf, sExpr, sNil, onR, eVar, eC, eOp, eAnd, eOr, eNot, eNeg, eIf, bAnd, bOr, bNot, bOp, bTru, asB, eChain, eCall, eFn, eFnD, eFnK, aCons, aNil, R.bind, List.length_cons, List.length_nil, List.replicate, List.map_cons, List.map_nil, List.cons_append, List.nil_append, List.getElem?_cons_zero, List.getElem?_cons_succ, List.set_cons_zero, List.set_cons_succ, wipeE, tgN, truth, bYes, pl_int, pl_bl, pl_non, pl_str, pl_tup, pl_lst, Nat.reduceAdd, Nat.reduceSub, Nat.reduceLT, if_true, Bool.true_and, Bool.and_true, Bool.not_true, Bool.not_false, Bool.false_eq_true, if_false, Nat.zero_add, truth_bl, fTuple_lst, fTuple_tup, nI, e1', oEq_int, e5, e4, f5, f4, decide_true, oCmp_int, eMt, asL_b, e8, e9]
    · by_cases h3 : t = 3
      · have e8 := app_b ds1 hs acc (List.range w) (by omega)
        refine ⟨List.range w, ds1, some (nI t), canon_range w, ?_⟩
        have e9 : ∀ h y6, eTupRg (mRg1 (eVar 1)) [some (.ref 0), some (nI w), some (nI n), some (.int 0), some (.ref (hs.length + 1)), some d5, y6] h = .ok (tN (List.range w)) h := fun h y6 => eTupRg_e (mRg1_e (by omega) rfl)
        simp only [nI] at elen e9
        have f5 : decide (t = 5) = false := decide_eq_false (by omega)
        have f4 : decide (t = 4) = false := decide_eq_false (by omega)
        have f3 : decide (t = 3) = true := decide_eq_true h3
        simp only [fnM, env0, sSeq, sSet, sRet, sRetN, sIf, sExpr, sNil, onR, eVar, eC, eOp, eAnd, eOr, eNot, eNeg, eIf, bAnd, bOr, bNot, bOp, bTru, asB, eChain, eCall, eFn, eFnD, eFnK, aCons, aNil, R.bind, List.length_cons, List.length_nil, List.replicate, List.map_cons, List.map_nil, List.cons_append, List.nil_append, List.getElem?_cons_zero, List.getElem?_cons_succ, List.set_cons_zero, List.set_cons_succ, wipeE, tgN, truth, bYes, pl_int, pl_bl, pl_non, pl_str, pl_tup, pl_lst, Nat.reduceAdd, Nat.reduceSub, Nat.reduceLT, if_true, Bool.true_and, Bool.and_true, Bool.not_true, Bool.not_false, Bool.false_eq_true, if_false, Nat.zero_add, truth_bl, fTuple_lst, fTuple_tup, nI, e1', oEq_int, e5, e4, e3, f5, f4, f3, eMt, asL_b, e8, e9]
      · obtain ⟨S, ds2, hS, q⟩ := l_some ds1 hw0 hw (hs ++ [.lst (acc.map tN)])
        have e8 := app_b ds2 hs acc S (by omega)
        refine ⟨S, ds2, some (nI t), hS, ?_⟩
        simp only [nI] at elen q
        by_cases h5' : t = 5
        · have hl0 : ¬ (0 < acc.length) := fun z => h5 ⟨h5', z⟩
          have f4 : decide (t = 4) = false := decide_eq_false h4
          have f3 : decide (t = 3) = false := decide_eq_false h3
          have f0 : decide (0 < acc.length) = false := decide_eq_false hl0
          have f5 : decide (t = 5) = true := decide_eq_true h5'
          simp only [fnM, env0, sSeq, sSet, sRet, sRetN, sIf, sExpr, sNil, onR, eVar, eC, eOp, eAnd, eOr, eNot, eNeg, eIf, bAnd, bOr, bNot, bOp, bTru, asB, eChain, eCall, eFn, eFnD, eFnK, aCons, aNil, R.bind, List.length_cons, List.length_nil, List.replicate, List.map_cons, List.map_nil, List.cons_append, List.nil_append, List.getElem?_cons_zero, List.getElem?_cons_succ, List.set_cons_zero, List.set_cons_succ, wipeE, tgN, truth, bYes, pl_int, pl_bl, pl_non, pl_str, pl_tup, pl_lst, Nat.reduceAdd, Nat.reduceSub, Nat.reduceLT, if_true, Bool.true_and, Bool.and_true, Bool.not_true, Bool.not_false, Bool.false_eq_true, if_false, Nat.zero_add, truth_bl, fTuple_lst, fTuple_tup, nI, e1', oEq_int, e5, e4, e3, f5, f4, f3, elen, oCmp_int, ea, f0, eMt, asL_b, e8, q]
        · have f4 : decide (t = 4) = false := decide_eq_false h4
          have f3 : decide (t = 3) = false := decide_eq_false h3
          have f5 : decide (t = 5) = false := decide_eq_false h5'
          simp only [fnM, env0, sSeq, sSet, sRet, sRetN, sIf, sExpr, sNil, onR, eVar, eC, eOp, eAnd, eOr, eNot, eNeg, eIf, bAnd, bOr, bNot, bOp, bTru, asB, eChain, eCall, eFn, eFnD, eFnK, aCons, aNil, R.bind, List.length_cons, List.length_nil, List.replicate, List.map_cons, List.map_nil, List.cons_append, List.nil_append, List.getElem?_cons_zero, List.getElem?_cons_succ, List.set_cons_zero, List.set_cons_succ, wipeE, tgN, truth, bYes, pl_int, pl_bl, pl_non, pl_str, pl_tup, pl_lst, Nat.reduceAdd, Nat.reduceSub, Nat.reduceLT, if_true, Bool.true_and, Bool.and_true, Bool.not_true, Bool.not_false, Bool.false_eq_true, if_false, Nat.zero_add, truth_bl, fTuple_lst, fTuple_tup, nI, e1', oEq_int, e5, e4, e3, f5, f4, f3, eMt, asL_b, e8, q]
theorem l_base (ds : List Int) {w n : Nat} (hw0 : 0 < w) (hw : w ≤ 100) (hn : n ≤ 100) (hs : Hpp) : ∃ lots ds', (∀ S ∈ lots, canon w S) ∧ lots.length = n ∧ F__law_base [.ref 0, nI w, nI n, .int 0] (iD ds :: hs) = .ok (lT lots) (iD ds' :: hs) := by
  obtain ⟨e2, h2, q, ds', acc, x5, x6, q2, q3, q4, q5⟩ := forGo_rng (t := tgN 5) (body := (sSeq (sSet 6 (eFn 2 F__law_take (aCons (eVar 0) (aCons (eC (.int 6)) aNil))))
  (sIf (bAnd (bOp oEq (eVar 6) (eC (.int 5))) (bOp (oCmp (fun i j => decide (j < i))) (eCall fLen (aCons (eVar 4) aNil)) (eC (.int 0)))) (sExpr (eMt (eVar 4) (aCons (eOp oIx (eVar 4) (eFn 2 F__law_take (aCons (eVar 0) (aCons (eCall fLen (aCons (eVar 4) aNil)) aNil)))) aNil) fAppend)) (sIf (bAnd (bOp oEq (eVar 6) (eC (.int 4))) (bOp oEq (eVar 3) (eC (.int 0)))) (sExpr (eMt (eVar 4) (aCons (eTup aNil) aNil) fAppend)) (sIf (bOp oEq (eVar 6) (eC (.int 3))) (sExpr (eMt (eVar 4) (aCons (eTupRg (mRg1 (eVar 1))) aNil) fAppend)) (sExpr (eMt (eVar 4) (aCons (eFn 2 F__law_some (aCons (eVar 0) (aCons (eVar 1) aNil))) aNil) fAppend))))))) (env := [some (.ref 0), some (nI w), some (nI n), some (.int 0), some (.ref (hs.length + 1)), none, none]) (hh := iD ds :: (hs ++ [.lst []])) n (fun i env hh => ∃ ds acc x5 x6, env = [some (.ref 0), some (nI w), some (nI n), some (.int 0), some (.ref (hs.length + 1)), x5, x6] ∧ hh = iD ds :: (hs ++ [.lst (acc.map tN)]) ∧ acc.length = i ∧ ∀ S ∈ acc, canon w S) (fun i env hh hi ⟨ds, acc, x5, x6, i1, i2, i3, i4⟩ => by
    subst i1; subst i2
    obtain ⟨S, ds', y6, hS, st⟩ := base_step hw0 hw n hs ds acc i4 (by omega) (nI i) x6
    refine ⟨[some (.ref 0), some (nI w), some (nI n), some (.int 0), some (.ref (hs.length + 1)), some (nI i), x6], _, _, rfl, st, ds', acc ++ [S], _, _, rfl, rfl, by simp [i3], fun T hT => ?_⟩
    rcases List.mem_append.mp hT with z | z
    · exact i4 T z
    · have : T = S := by simpa using z
      rw [this]; exact hS) ⟨ds, [], none, none, rfl, rfl, rfl, fun S hS => by simp at hS⟩
  subst q2; subst q3
  refine ⟨acc, ds', q5, q4, ?_⟩
  have e1 : eLst true aNil [some (.ref 0), some (nI w), some (nI n), some (.int 0), none, none, none] (iD ds :: hs) = .ok (.ref (hs.length + 1)) (iD ds :: (hs ++ [.lst []])) := rfl
  have it : (iRg1 (aCons (eVar 2) aNil)) [some (.ref 0), some (nI w), some (nI n), some (.int 0), some (.ref (hs.length + 1)), none, none] (iD ds :: (hs ++ [.lst []])) = .ok ⟨(List.range n).map nI, []⟩ (iD ds :: (hs ++ [.lst []])) := iRg1_e (by omega) rfl
  simp only [F__law_base, m__law_base, fnM, env0, sSeq, sSet, sRet, sRetN, sIf, sExpr, sNil, onR, eVar, eC, eOp, eAnd, eOr, eNot, eNeg, eIf, bAnd, bOr, bNot, bOp, bTru, asB, eChain, eCall, eFn, eFnD, eFnK, aCons, aNil, R.bind, List.length_cons, List.length_nil, List.replicate, List.map_cons, List.map_nil, List.cons_append, List.nil_append, List.getElem?_cons_zero, List.getElem?_cons_succ, List.set_cons_zero, List.set_cons_succ, wipeE, tgN, truth, bYes, pl_int, pl_bl, pl_non, pl_str, pl_tup, pl_lst, Nat.reduceAdd, Nat.reduceSub, Nat.reduceLT, if_true, Bool.true_and, Bool.and_true, Bool.not_true, Bool.not_false, Bool.false_eq_true, if_false, Nat.zero_add, truth_bl, fTuple_lst, fTuple_tup, e1, sFor, it, q]
  simp [finR, lT]
end Law
end
end
section
set_option Elab.async false
set_option linter.all false
set_option maxRecDepth 100000
set_option maxHeartbeats 400000
noncomputable section
namespace Law
open Nb
theorem inter_anti {lots : List (List Nat)} {s t : Nat → Bool} (h : ∀ x, x < lots.length → s x = true → t x = true) {x : Nat} (e : inter lots t x = true) : inter lots s x = true := by
  unfold inter at e ⊢
  rw [List.all_eq_true] at e ⊢
  intro i hi
  have h1 := e i hi
  have h2 := h i (List.mem_range.mp hi)
  cases q : s i <;> simp_all
theorem cB_fam (w : Nat) (lots : List (List Nat)) (L : List Nat) : Fam lots.length (cB w lots L) := ⟨fun s t h e => by
  unfold cB at e ⊢
  rw [List.all_eq_true] at e ⊢
  intro x hx
  have h1 := e x hx
  cases q : inter lots t x with
  | false => rfl
  | true =>
    rw [inter_anti h q] at h1
    simpa using h1⟩
theorem inter_mem {lots : List (List Nat)} {S : List Nat} (hS : canon lots.length S) (x : Nat) : inter lots (fun y => decide (y ∈ S)) x = S.all fun i => decide (x ∈ lots.getD i []) := by
  unfold inter
  apply Bool.eq_iff_iff.mpr
  simp only [List.all_eq_true, List.mem_range, Bool.or_eq_true, Bool.not_eq_true', decide_eq_false_iff_not, decide_eq_true_eq]
  constructor
  · intro h i hi
    rcases h i (hS.2 i hi) with z | z
    · exact absurd hi z
    · exact z
  · intro h i hi
    by_cases z : i ∈ S
    · exact .inr (h i z)
    · exact .inl z
theorem says_cB {w : Nat} {lots : List (List Nat)} {S : List Nat} (hS : canon lots.length S) (L : List Nat) : ((saysL w lots S).all fun x => decide (x ∈ L)) = cB w lots L fun y => decide (y ∈ S) := by
  unfold saysL cB
  apply Bool.eq_iff_iff.mpr
  simp only [List.all_eq_true, List.mem_filter, List.mem_range, inter_mem hS, Bool.or_eq_true, Bool.not_eq_true', decide_eq_true_eq]
  constructor
  · intro h x hx
    cases q : S.all fun i => decide (x ∈ lots.getD i []) with
    | false => exact .inl rfl
    | true =>
      rw [List.all_eq_true] at q
      exact .inr (h x ⟨hx, fun i hi => by simpa using q i hi⟩)
  · rintro h x ⟨hx, ha⟩
    rcases h x hx with z | z
    · have : (S.all fun i => decide (x ∈ lots.getD i [])) = true := List.all_eq_true.mpr fun i hi => by simpa using ha i hi
      rw [this] at z; cases z
    · exact z
theorem carC_eq (w : Nat) (lots : List (List Nat)) (L : List Nat) : carC w lots L = famC lots.length (cB w lots L) := by
  unfold carC famC
  exact List.filter_congr fun S hS => says_cB (mem_subs.mp hS) L
theorem mem_famC {n : Nat} {c : (Nat → Bool) → Bool} {S : List Nat} : S ∈ famC n c ↔ canon n S ∧ c (fun y => decide (y ∈ S)) = true := by rw [famC, List.mem_filter, mem_subs]
theorem canon_can (n : Nat) (S : List Nat) : canon n (can n S) := ⟨can_pair n S, fun x hx => (can_mem.mp hx).1⟩
theorem rC_eq {n : Nat} {c : (Nat → Bool) → Bool} (f : Fam n c) : (subs n).filter (rC n (famC n c)) = restsL n c := by
  refine List.filter_congr fun S hS => ?_
  have hS := mem_subs.mp hS
  have e1 : decide (S ∈ famC n c) = c fun y => decide (y ∈ S) := by
    apply Bool.eq_iff_iff.mpr
    rw [decide_eq_true_eq, mem_famC]
    exact ⟨fun h => h.2, fun h => ⟨hS, h⟩⟩
  unfold rC restP
  rw [e1]
  congr 1
  congr 1
  funext p
  apply Bool.eq_iff_iff.mpr
  rw [decide_eq_true_eq, mem_famC]
  have e2 : c (fun y => decide (y ∈ can n (S ++ [p]))) = c fun y => decide (y ∈ S) || decide (y = p) := f.congr fun x hx => by
    simp [can_mem, hx]
  rw [e2]
  exact ⟨fun h => h.2, fun h => ⟨canon_can _ _, h⟩⟩
theorem inter_pad {w : Nat} (lots : List (List Nat)) (s : Nat → Bool) {x : Nat} (hx : x < w) : ∀ j : Nat, inter (lots ++ List.replicate j (List.range w)) s x = inter lots s x
  | 0 => by simp
  | j + 1 => by
    rw [List.replicate_succ', ← List.append_assoc, inter_app, inter_pad lots s hx j]
    simp [hx]
theorem cB_pad (w : Nat) (lots : List (List Nat)) (L : List Nat) (j : Nat) : cB w (lots ++ List.replicate j (List.range w)) L = cB w lots L := by
  funext s
  unfold cB
  apply Bool.eq_iff_iff.mpr
  simp only [List.all_eq_true, List.mem_range]
  constructor <;> intro h x hx
  · have := h x hx
    rw [inter_pad lots s hx] at this
    exact this
  · rw [inter_pad lots s hx]
    exact h x hx
end Law
end
end
section
set_option Elab.async false
set_option linter.all false
set_option maxRecDepth 100000
set_option maxHeartbeats 800000
noncomputable section
namespace Law
open Nb PySem PySem.Spec
def lL (ls : List (List Nat)) : D := .lst (ls.map lN)
def pL (ls : List (List Nat)) : List PyData := ls.map fun l => PyData.list (pN l)
theorem pyOf_lL (ls : List (List Nat)) (h : Hpp) : pyOf (lL ls) h = some (.list (pL ls)) := by
  rw [pyOf_ok rfl (by rw [lL, isPy]; exact isPyL_map isPy_lN ls), lL, toPy, toPyL_map toPy_lN]; rfl
theorem shaped_lL (ls : List (List Nat)) : SeqAt.shaped (.list (pL ls)) = true := shaped_of (by rw [PyData.canLay0]; exact canLayAll_map (fun l => by rw [PyData.canLay0]; exact canLay_pN l) ls) (Nat.le_trans (show _ ≤ 2 by rw [PyData.depth]; exact Nat.succ_le_succ (depthAll_le depth_lst ls)) (by decide))
theorem oEq_lL (a b : List (List Nat)) (h : Hpp) : oEq (lL a) (lL b) h = .ok (.bl (decide (a = b))) h := by
  have e : PyData.eqv (.list (pL a)) (.list (pL b)) = decide (a = b) := by rw [PyData.eqv]; exact eqvAll_map eqv_lN a b
  simp [oEq, pyOf_lL, shaped_lL, e]
theorem plain2_lN {l : List Nat} (h : l.length < 16777216) : plain2 (lN l) := plain2_rowN (.inr rfl) h
/-- rows told from the back make a base -/
theorem GB_rows {w : Nat} (hw : w ≤ 1000) {lots : List (List Nat)} (hc : ∀ S ∈ lots, canon w S) (hz : lots.length ≤ 8) (f : List Nat → D) (g : List Nat → List Nat) (hf : ∀ S, f S = .tup ((g S).map nI) ∨ f S = .lst ((g S).map nI)) (hg : ∀ S, (g S).Perm S) {d : D} (hd : d = .tup (lots.map f) ∨ d = .lst (lots.map f)) : GB w d lots := by
  refine ⟨lots.map fun S => (f S, g S), ?_, ?_, fun p hp => ?_, by simpa using hz, ?_⟩
  · rw [List.map_map]
    rcases hd with z | z <;> subst z <;> rfl
  · rcases hd with z | z <;> subst z <;> rfl
  · obtain ⟨S, hS, rfl⟩ := List.mem_map.mp hp
    have hS' := hc S hS
    have hlen := canon_length hS'
    refine ⟨?_, (hg S).nodup_iff.mpr (nodup_of_lt hS'.1), fun x hx => hS'.2 x ((hg S).mem_iff.mp hx), plain2_rowN (hf S) ?_⟩
    · rcases hf S with z | z <;> rw [z] <;> rfl
    · rw [(hg S).length_eq]; omega
  · rw [List.map_map]
    symm
    have : ∀ S ∈ lots, ((fun p : D × List Nat => can w p.2) ∘ fun S => (f S, g S)) S = S := fun S hS => by
      show can w (g S) = S
      have hS' := hc S hS
      exact (can_congr fun x => (hg S).mem_iff).trans (can_self hS'.1 hS'.2)
    rw [List.map_congr_left this, List.map_id']
theorem GB_rev {w : Nat} (hw : w ≤ 1000) {lots : List (List Nat)} (hc : ∀ S ∈ lots, canon w S) (hz : lots.length ≤ 8) : GB w (lL (lots.map List.reverse)) lots :=
  GB_rows hw hc hz (fun S => lN S.reverse) List.reverse (fun S => .inr rfl) (fun S => List.reverse_perm S) (.inr (by rw [lL, List.map_map]; rfl))
theorem GB_lT {w : Nat} (hw : w ≤ 1000) {lots : List (List Nat)} (hc : ∀ S ∈ lots, canon w S) (hz : lots.length ≤ 8) : GB w (lT lots) lots :=
  GB_rows hw hc hz tN id (fun S => .inl rfl) (fun S => List.Perm.refl _) (.inr rfl)
theorem GB_tTs {w : Nat} (hw : w ≤ 1000) {lots : List (List Nat)} (hc : ∀ S ∈ lots, canon w S) (hz : lots.length ≤ 8) : GB w (tTs lots) lots :=
  GB_rows hw hc hz tN id (fun S => .inl rfl) (fun S => List.Perm.refl _) (.inl rfl)
theorem GRs_lT {n : Nat} (hn : n ≤ 1000) {Ks : List (List Nat)} (hK : ∀ K ∈ Ks, canon n K) (hz : Ks.length < 100000) : GRs n (lT Ks) Ks := by
  refine ⟨Ks.map fun K => (tN K, K), ?_, rfl, fun p hp => ?_, by simpa using hz, ?_⟩
  · rw [List.map_map]; rfl
  · obtain ⟨K, hK', rfl⟩ := List.mem_map.mp hp
    exact GR_tN (hK K hK') hn
  · rw [List.map_map]
    exact (List.map_id' _).symm
theorem kernL_len {n : Nat} (hn : n ≤ 8) (c : (Nat → Bool) → Bool) : (kernL n c).length < 100000 := Nat.lt_of_le_of_lt (List.length_filter_le _ _) (subs_len hn)
theorem restsL_len {n : Nat} (hn : n ≤ 8) (c : (Nat → Bool) → Bool) : (restsL n c).length < 100000 := Nat.lt_of_le_of_lt (List.length_filter_le _ _) (subs_len hn)
theorem famC_len {n : Nat} (hn : n ≤ 8) (c : (Nat → Bool) → Bool) : (famC n c).length < 100000 := Nat.lt_of_le_of_lt (List.length_filter_le _ _) (subs_len hn)
theorem fRev_lN (l : List Nat) (h : Hpp) : fRev false (lN l) h = .ok (lN l.reverse) h := by simp [fRev, lN, asL, mkL]
theorem fRev_tN (l : List Nat) (h : Hpp) : fRev false (tN l) h = .ok (tN l.reverse) h := by simp [fRev, tN]
theorem fList_tN (l : List Nat) (h : Hpp) : fList false [tN l] h = .ok (lN l) h := rfl
theorem fList_tTs (l : List (List Nat)) (h : Hpp) : fList false [tTs l] h = .ok (lT l) h := rfl
theorem fTuple_lN (l : List Nat) (h : Hpp) : fTuple [lN l] h = .ok (tN l) h := rfl
theorem fTuple_lT (l : List (List Nat)) (h : Hpp) : fTuple [lT l] h = .ok (tTs l) h := rfl
end Law
end
end
section
set_option Elab.async false
set_option linter.all false
set_option maxRecDepth 100000
set_option maxHeartbeats 1600000
noncomputable section
namespace Law
open Nb
abbrev soB : SM := (sSeq (sIf (bNot (bTru (eFn 2 F__law_same (aCons (eFn 4 F_is_rest (aCons (eVar 4) (aCons (eVar 1) (aCons (eVar 2) (aCons (eRev false (eVar 13)) aNil))))) (aCons (eOp (oIn false) (eVar 13) (eVar 6)) aNil))))) (sRet (eC (.bl false))) sNil)
  (sIf (bNot (bTru (eFn 2 F__law_same (aCons (eFn 4 F_carries (aCons (eVar 4) (aCons (eVar 1) (aCons (eVar 13) (aCons (eVar 2) aNil))))) (aCons (eOp (oIn false) (eVar 13) (eVar 5)) aNil))))) (sRet (eC (.bl false))) sNil))
theorem so_loop {w : Nat} (h1 : 1 ≤ w) (h2 : w ≤ 12) {lots : List (List Nat)} (hc : ∀ S ∈ lots, canon w S) (hz : lots.length ≤ 8) {L : List Nat} (hL : canon w L) (hl : L.length < w) (d0 d3 d7 d8 d9 d10 d11 d12 : D) (h : Hpp) : ∃ e2 h2, forGo [] (tgN 13) soB ((subs lots.length).map tN) [some d0, some (nI w), some (tN L), some d3, some (lL (lots.map List.reverse)), some (lT (famC lots.length (cB w lots L))), some (lT (restsL lots.length (cB w lots L))), some d7, some d8, some d9, some d10, some d11, some d12, none, none, none] h = .nx e2 h2 ∧ (h2 = h ∧ ∃ x13, e2 = [some d0, some (nI w), some (tN L), some d3, some (lL (lots.map List.reverse)), some (lT (famC lots.length (cB w lots L))), some (lT (restsL lots.length (cB w lots L))), some d7, some d8, some d9, some d10, some d11, some d12, x13, none, none]) := by
  obtain ⟨e2, h2, q, ⟨i1, i2⟩, _⟩ := forGo_st (t := tgN 13) (body := soB) tN (fun xs (_ : Unit) env hh => (hh = h ∧ ∃ x13, env = [some d0, some (nI w), some (tN L), some d3, some (lL (lots.map List.reverse)), some (lT (famC lots.length (cB w lots L))), some (lT (restsL lots.length (cB w lots L))), some d7, some d8, some d9, some d10, some d11, some d12, x13, none, none]) ∧ ∀ x ∈ xs, canon lots.length x) (fun s _ => s) (fun S xs s env hh ⟨⟨i1, x13, i2⟩, i3⟩ => by
    subst i1; subst i2
    have hS := i3 S List.mem_cons_self
    refine ⟨[some d0, some (nI w), some (tN L), some d3, some (lL (lots.map List.reverse)), some (lT (famC lots.length (cB w lots L))), some (lT (restsL lots.length (cB w lots L))), some d7, some d8, some d9, some d10, some d11, some d12, some (tN S), none, none], [some d0, some (nI w), some (tN L), some d3, some (lL (lots.map List.reverse)), some (lT (famC lots.length (cB w lots L))), some (lT (restsL lots.length (cB w lots L))), some d7, some d8, some d9, some d10, some d11, some d12, some (tN S), none, none], _, rfl, ?_, ⟨rfl, _, rfl⟩, fun x hx => i3 x (List.mem_cons_of_mem _ hx)⟩
    have gB := GB_rev (by omega) hc hz
    have gL := GR_tN hL (by omega)
    have m1 := s_is_rest h1 h2 gB gL (GR_revT hS (by omega)) hl hh
    have m2 := s_carries h1 h2 gB (GR_tN hS (by omega)) gL hh
    have m3 := oIn_lT hh false S (restsL lots.length (cB w lots L))
    have m4 := oIn_lT hh false S (famC lots.length (cB w lots L))
    have e : decide (S ∈ famC lots.length (cB w lots L)) = cB w lots L fun y => decide (y ∈ S) := by
      apply Bool.eq_iff_iff.mpr
      rw [decide_eq_true_eq, mem_famC]
      exact ⟨fun z => z.2, fun z => ⟨hS, z⟩⟩
    rw [says_cB hS] at m2
    rw [e] at m4
    simp only [soB, fnM, env0, sSeq, sSet, sRet, sRetN, sIf, sExpr, sNil, onR, eVar, eC, eOp, eAnd, eOr, eNot, eNeg, eIf, bAnd, bOr, bNot, bOp, bTru, asB, eChain, eCall, eFn, eFnD, eFnK, aCons, aNil, R.bind, List.length_cons, List.length_nil, List.replicate, List.map_cons, List.map_nil, List.cons_append, List.nil_append, List.getElem?_cons_zero, List.getElem?_cons_succ, List.set_cons_zero, List.set_cons_succ, wipeE, tgN, truth, bYes, pl_int, pl_bl, pl_non, pl_str, pl_tup, pl_lst, Nat.reduceAdd, Nat.reduceSub, Nat.reduceLT, if_true, Bool.true_and, Bool.and_true, Bool.not_true, Bool.not_false, Bool.false_eq_true, if_false, Nat.zero_add, truth_bl, fTuple_lst, fTuple_tup, eRev, fRev_tN, m1, m2, m3, m4, l_same, decide_true]) (subs lots.length) () _ h ⟨⟨rfl, none, rfl⟩, fun x hx => mem_subs.mp hx⟩
  exact ⟨e2, h2, q, i1, i2⟩
theorem l_is_so {w : Nat} (h1 : 1 ≤ w) (h2 : w ≤ 12) {lots : List (List Nat)} (hc : ∀ S ∈ lots, canon w S) (hz : lots.length ≤ 8) {L : List Nat} (hL : canon w L) (hl : L.length < w) (h : Hpp) : F__law_is_so [lT lots, nI w, tN L] h = .ok (.bl true) h := by
  have f := cB_fam w lots L
  have gB := GB_rev (by omega) hc hz
  have gL := GR_tN hL (by omega)
  have gL' := GR_rev hL (by omega)
  have m1 := fLen_lT lots h
  have m5 := l_carried h2 hz L h
  rw [carC_eq] at m5
  have m6 := l_rests hz (famC lots.length (cB w lots L)) h
  rw [rC_eq f] at m6
  have m7 := l_kernels (famC lots.length (cB w lots L)) (famC_len hz _) h
  rw [fold_kern f] at m7
  have m8 := s_rests h1 h2 gB gL' hl h
  have m9 := s_kernels h1 h2 gB gL hl h
  have c8 : ∀ S ∈ restsL lots.length (cB w lots L), canon lots.length S := fun S hS => (mem_restsL.mp hS).1
  have c9 : ∀ S ∈ kernL lots.length (cB w lots L), canon lots.length S := fun S hS => (mem_kernL.mp hS).1
  have a8 := l_are c8 h
  have a9 := l_are c9 h
  have m10 := s_hitting hz (GRs_lT (by omega) c9 (kernL_len hz _)) h
  have m10' := l_hitting hz (kernL lots.length (cB w lots L)) h
  have c10 : ∀ S ∈ hitL lots.length (kernL lots.length (cB w lots L)), canon lots.length S := fun S hS => by
    rw [hit_kernels f] at hS
    exact (mem_kernL.mp hS).1
  have a10 := l_are c10 h
  have m11 := l_ordered hz ((hitL lots.length (kernL lots.length (cB w lots L))).map (coL lots.length)) h
  rw [hit_ordered f] at m11
  have m12 := s_hitting hz (GRs_lT (Ks := (restsL lots.length (cB w lots L)).map (coL lots.length)) (by omega) (fun K hK => by
    obtain ⟨R, _, rfl⟩ := List.mem_map.mp hK
    exact coL_canon _ _) (by rw [List.length_map]; exact restsL_len hz _)) h
  rw [hit_rests f] at m12
  have m13 := s_in_every h1 h2 gB gL hl h
  have m14 := s_in_no h1 h2 gB gL hl h
  rw [shared_eq f] at m14
  have a13 := l_are1 (n := lots.length) (S := inAllL lots.length (restsL lots.length (cB w lots L))) (canon_rng _ _) h
  have m15 := l_lots hz h
  obtain ⟨e2, h2', lp, rfl, x13, rfl⟩ := so_loop h1 h2 hc hz hL hl (lT lots) (nI lots.length) (lT (kernL lots.length (cB w lots L))) (tTs (restsL lots.length (cB w lots L))) (tTs (kernL lots.length (cB w lots L))) (tTs (hitL lots.length (kernL lots.length (cB w lots L)))) (tTs (kernL lots.length (cB w lots L))) (lN (inAllL lots.length (restsL lots.length (cB w lots L)))) h
  generalize hC : famC lots.length (cB w lots L) = C at *
  generalize hR : restsL lots.length (cB w lots L) = Rs at *
  generalize hK : kernL lots.length (cB w lots L) = Ks at *
  generalize hH : hitL lots.length Ks = Hs at *
  generalize hI : inAllL lots.length Rs = In at *
  have k1 : ∀ (e1 e2 e3 e4 e5 e6 e7 e8 e9 e10 e11 e12 e13 : Option D), (eLc false (iAny (eVar 0)) (tgN 14) bYes (eRev false (eCall (fList false) (aCons (eVar 14) aNil))) [14]) [some (lT lots), e1, e2, e3, e4, e5, e6, e7, e8, e9, e10, e11, e12, e13, none, none] h2' = .ok (lL (lots.map List.reverse)) h2' := fun e1 e2 e3 e4 e5 e6 e7 e8 e9 e10 e11 e12 e13 => by
    have := lc_map (t := tgN 14) (te := (eRev false (eCall (fList false) (aCons (eVar 14) aNil)))) (vs := [14]) tN lots (fun S => lN S.reverse) (iAny_lT (i := 0) (env := [some (lT lots), e1, e2, e3, e4, e5, e6, e7, e8, e9, e10, e11, e12, e13, none, none]) (h := h2') rfl) (fun S _ c => ⟨[some (lT lots), e1, e2, e3, e4, e5, e6, e7, e8, e9, e10, e11, e12, e13, some (tN S), none], rfl, by
      simp only [fnM, env0, sSeq, sSet, sRet, sRetN, sIf, sExpr, sNil, onR, eVar, eC, eOp, eAnd, eOr, eNot, eNeg, eIf, bAnd, bOr, bNot, bOp, bTru, asB, eChain, eCall, eFn, eFnD, eFnK, aCons, aNil, R.bind, List.length_cons, List.length_nil, List.replicate, List.map_cons, List.map_nil, List.cons_append, List.nil_append, List.getElem?_cons_zero, List.getElem?_cons_succ, List.set_cons_zero, List.set_cons_succ, wipeE, tgN, truth, bYes, pl_int, pl_bl, pl_non, pl_str, pl_tup, pl_lst, Nat.reduceAdd, Nat.reduceSub, Nat.reduceLT, if_true, Bool.true_and, Bool.and_true, Bool.not_true, Bool.not_false, Bool.false_eq_true, if_false, Nat.zero_add, truth_bl, fTuple_lst, fTuple_tup, eRev, fList_tN, fRev_lN]⟩) fun _ => rfl
    rw [this, lL, List.map_map]; rfl
  have k2 : (eLc false (iAny (eVar 10)) (tgN 13) bYes (eFn 2 F_left_out (aCons (eVar 13) (aCons (eVar 3) aNil))) [13]) [some (lT lots), some (nI w), some (tN L), some (nI lots.length), some (lL (lots.map List.reverse)), some (lT C), some (lT Rs), some (lT Ks), some (tTs Rs), some (tTs Ks), some (tTs Hs), none, none, none, none, none] h2' = .ok (lT (Hs.map (coL lots.length))) h2' := by
    have := lc_map (t := tgN 13) (te := (eFn 2 F_left_out (aCons (eVar 13) (aCons (eVar 3) aNil)))) (vs := [13]) tN Hs (fun S => tN (coL lots.length S)) (iAny_tTs (i := 10) (env := [some (lT lots), some (nI w), some (tN L), some (nI lots.length), some (lL (lots.map List.reverse)), some (lT C), some (lT Rs), some (lT Ks), some (tTs Rs), some (tTs Ks), some (tTs Hs), none, none, none, none, none]) (h := h2') rfl) (fun S hS c => ⟨[some (lT lots), some (nI w), some (tN L), some (nI lots.length), some (lL (lots.map List.reverse)), some (lT C), some (lT Rs), some (lT Ks), some (tTs Rs), some (tTs Ks), some (tTs Hs), none, none, some (tN S), none, none], rfl, by
      have := s_left_out hz (GR_tN (c10 S hS) (by omega)) (h2' ++ [c])
      simp only [fnM, env0, sSeq, sSet, sRet, sRetN, sIf, sExpr, sNil, onR, eVar, eC, eOp, eAnd, eOr, eNot, eNeg, eIf, bAnd, bOr, bNot, bOp, bTru, asB, eChain, eCall, eFn, eFnD, eFnK, aCons, aNil, R.bind, List.length_cons, List.length_nil, List.replicate, List.map_cons, List.map_nil, List.cons_append, List.nil_append, List.getElem?_cons_zero, List.getElem?_cons_succ, List.set_cons_zero, List.set_cons_succ, wipeE, tgN, truth, bYes, pl_int, pl_bl, pl_non, pl_str, pl_tup, pl_lst, Nat.reduceAdd, Nat.reduceSub, Nat.reduceLT, if_true, Bool.true_and, Bool.and_true, Bool.not_true, Bool.not_false, Bool.false_eq_true, if_false, Nat.zero_add, truth_bl, fTuple_lst, fTuple_tup, this]⟩) fun _ => rfl
    rw [this, lT, List.map_map]; rfl
  have k3 : (eLc false (iAny (eVar 8)) (tgN 13) bYes (eFn 2 F_left_out (aCons (eVar 13) (aCons (eVar 3) aNil))) [13]) [some (lT lots), some (nI w), some (tN L), some (nI lots.length), some (lL (lots.map List.reverse)), some (lT C), some (lT Rs), some (lT Ks), some (tTs Rs), some (tTs Ks), some (tTs Hs), none, none, none, none, none] h2' = .ok (lT (Rs.map (coL lots.length))) h2' := by
    have := lc_map (t := tgN 13) (te := (eFn 2 F_left_out (aCons (eVar 13) (aCons (eVar 3) aNil)))) (vs := [13]) tN Rs (fun S => tN (coL lots.length S)) (iAny_tTs (i := 8) (env := [some (lT lots), some (nI w), some (tN L), some (nI lots.length), some (lL (lots.map List.reverse)), some (lT C), some (lT Rs), some (lT Ks), some (tTs Rs), some (tTs Ks), some (tTs Hs), none, none, none, none, none]) (h := h2') rfl) (fun S hS c => ⟨[some (lT lots), some (nI w), some (tN L), some (nI lots.length), some (lL (lots.map List.reverse)), some (lT C), some (lT Rs), some (lT Ks), some (tTs Rs), some (tTs Ks), some (tTs Hs), none, none, some (tN S), none, none], rfl, by
      have := s_left_out hz (GR_tN (c8 S hS) (by omega)) (h2' ++ [c])
      simp only [fnM, env0, sSeq, sSet, sRet, sRetN, sIf, sExpr, sNil, onR, eVar, eC, eOp, eAnd, eOr, eNot, eNeg, eIf, bAnd, bOr, bNot, bOp, bTru, asB, eChain, eCall, eFn, eFnD, eFnK, aCons, aNil, R.bind, List.length_cons, List.length_nil, List.replicate, List.map_cons, List.map_nil, List.cons_append, List.nil_append, List.getElem?_cons_zero, List.getElem?_cons_succ, List.set_cons_zero, List.set_cons_succ, wipeE, tgN, truth, bYes, pl_int, pl_bl, pl_non, pl_str, pl_tup, pl_lst, Nat.reduceAdd, Nat.reduceSub, Nat.reduceLT, if_true, Bool.true_and, Bool.and_true, Bool.not_true, Bool.not_false, Bool.false_eq_true, if_false, Nat.zero_add, truth_bl, fTuple_lst, fTuple_tup, this]⟩) fun _ => rfl
    rw [this, lT, List.map_map]; rfl
  have k5 : ∀ (x : Nat) (h : Hpp), (eLc false (iAny (eVar 6)) (tgN 14) (bOp (oIn true) (eVar 15) (eVar 14)) (eVar 14) [14]) [some (lT lots), some (nI w), some (tN L), some (nI lots.length), some (lL (lots.map List.reverse)), some (lT C), some (lT Rs), some (lT Ks), some (tTs Rs), some (tTs Ks), some (tTs Hs), some (tTs Ks), none, none, none, some (nI x)] h = .ok (lT (Rs.filter fun R => !decide (x ∈ R))) h := fun x h =>
    lc_fil tN Rs _ tN (iAny_lT (i := 6) rfl) (fun T hT c => ⟨[some (lT lots), some (nI w), some (tN L), some (nI lots.length), some (lL (lots.map List.reverse)), some (lT C), some (lT Rs), some (lT Ks), some (tTs Rs), some (tTs Ks), some (tTs Hs), some (tTs Ks), none, none, some (tN T), some (nI x)], rfl, by simp only [fnM, env0, sSeq, sSet, sRet, sRetN, sIf, sExpr, sNil, onR, eVar, eC, eOp, eAnd, eOr, eNot, eNeg, eIf, bAnd, bOr, bNot, bOp, bTru, asB, eChain, eCall, eFn, eFnD, eFnK, aCons, aNil, R.bind, List.length_cons, List.length_nil, List.replicate, List.map_cons, List.map_nil, List.cons_append, List.nil_append, List.getElem?_cons_zero, List.getElem?_cons_succ, List.set_cons_zero, List.set_cons_succ, wipeE, tgN, truth, bYes, pl_int, pl_bl, pl_non, pl_str, pl_tup, pl_lst, Nat.reduceAdd, Nat.reduceSub, Nat.reduceLT, if_true, Bool.true_and, Bool.and_true, Bool.not_true, Bool.not_false, Bool.false_eq_true, if_false, Nat.zero_add, truth_bl, fTuple_lst, fTuple_tup, oIn_tN], rfl⟩) fun _ => rfl
  have k4 : (eLc false (iRg1 (aCons (eVar 3) aNil)) (tgN 15) (bOp oEq (eCall fLen (aCons (eLc false (iAny (eVar 6)) (tgN 14) (bOp (oIn true) (eVar 15) (eVar 14)) (eVar 14) [14]) aNil)) (eC (.int 0))) (eVar 15) [15]) [some (lT lots), some (nI w), some (tN L), some (nI lots.length), some (lL (lots.map List.reverse)), some (lT C), some (lT Rs), some (lT Ks), some (tTs Rs), some (tTs Ks), some (tTs Hs), some (tTs Ks), none, none, none, none] h2' = .ok (lN In) h2' := by
    rw [← hI]
    exact lc_fil nI (List.range lots.length) (fun x => Rs.all fun R => decide (x ∈ R)) nI (iRg1_e (by omega) rfl) (fun x _ c => ⟨[some (lT lots), some (nI w), some (tN L), some (nI lots.length), some (lL (lots.map List.reverse)), some (lT C), some (lT Rs), some (lT Ks), some (tTs Rs), some (tTs Ks), some (tTs Hs), some (tTs Ks), none, none, none, some (nI x)], rfl, by
      have e1 := k5 x (h2' ++ [c])
      have e2 := fLen_lT (Rs.filter fun R => !decide (x ∈ R)) (h2' ++ [c])
      simp only [fnM, env0, sSeq, sSet, sRet, sRetN, sIf, sExpr, sNil, onR, eVar, eC, eOp, eAnd, eOr, eNot, eNeg, eIf, bAnd, bOr, bNot, bOp, bTru, asB, eChain, eCall, eFn, eFnD, eFnK, aCons, aNil, R.bind, List.length_cons, List.length_nil, List.replicate, List.map_cons, List.map_nil, List.cons_append, List.nil_append, List.getElem?_cons_zero, List.getElem?_cons_succ, List.set_cons_zero, List.set_cons_succ, wipeE, tgN, truth, bYes, pl_int, pl_bl, pl_non, pl_str, pl_tup, pl_lst, Nat.reduceAdd, Nat.reduceSub, Nat.reduceLT, if_true, Bool.true_and, Bool.and_true, Bool.not_true, Bool.not_false, Bool.false_eq_true, if_false, Nat.zero_add, truth_bl, fTuple_lst, fTuple_tup, e1, e2, nI, oEq_int, len_zero, fil_empty, Bool.not_not], rfl⟩) fun _ => rfl
  have it : (iAny (eFn 1 F__law_lots (aCons (eVar 3) aNil))) [some (lT lots), some (nI w), some (tN L), some (nI lots.length), some (lL (lots.map List.reverse)), some (lT C), some (lT Rs), some (lT Ks), some (tTs Rs), some (tTs Ks), some (tTs Hs), some (tTs Ks), some (lN In), none, none, none] h2' = .ok ⟨(subs lots.length).map tN, []⟩ h2' := iAny_e (d := lT (subs lots.length)) (by simp only [fnM, env0, sSeq, sSet, sRet, sRetN, sIf, sExpr, sNil, onR, eVar, eC, eOp, eAnd, eOr, eNot, eNeg, eIf, bAnd, bOr, bNot, bOp, bTru, asB, eChain, eCall, eFn, eFnD, eFnK, aCons, aNil, R.bind, List.length_cons, List.length_nil, List.replicate, List.map_cons, List.map_nil, List.cons_append, List.nil_append, List.getElem?_cons_zero, List.getElem?_cons_succ, List.set_cons_zero, List.set_cons_succ, wipeE, tgN, truth, bYes, pl_int, pl_bl, pl_non, pl_str, pl_tup, pl_lst, Nat.reduceAdd, Nat.reduceSub, Nat.reduceLT, if_true, Bool.true_and, Bool.and_true, Bool.not_true, Bool.not_false, Bool.false_eq_true, if_false, Nat.zero_add, truth_bl, fTuple_lst, fTuple_tup, m15]) (.inr rfl)
  have tp : ∀ (l : List Nat) (h : Hpp), (if (noRefs [tN l] && decide ([tN l].length ≤ LINE)) = true then (Nb.R.ok (D.tup [tN l]) h : Nb.R D) else .no) = .ok (.tup [tN l]) h := fun l h => rfl
  have nr : ∀ (l : List Nat), noRefs [tN l] = true := fun l => rfl
  have nz : decide ((1 : Nat) ≤ LINE) = true := by decide
  simp only [soB] at lp
  simp only [F__law_is_so, m__law_is_so, fnM, env0, sSeq, sSet, sRet, sRetN, sIf, sExpr, sNil, onR, eVar, eC, eOp, eAnd, eOr, eNot, eNeg, eIf, bAnd, bOr, bNot, bOp, bTru, asB, eChain, eCall, eFn, eFnD, eFnK, aCons, aNil, R.bind, List.length_cons, List.length_nil, List.replicate, List.map_cons, List.map_nil, List.cons_append, List.nil_append, List.getElem?_cons_zero, List.getElem?_cons_succ, List.set_cons_zero, List.set_cons_succ, wipeE, tgN, truth, bYes, pl_int, pl_bl, pl_non, pl_str, pl_tup, pl_lst, Nat.reduceAdd, Nat.reduceSub, Nat.reduceLT, if_true, Bool.true_and, Bool.and_true, Bool.not_true, Bool.not_false, Bool.false_eq_true, if_false, Nat.zero_add, truth_bl, fTuple_lst, fTuple_tup, m1, k1, m5, m6, m7, eRev, fList_tN, fRev_lN, m8, m9, a8, a9, fList_tTs, m10, m10', a10, k2, m11, oNe_lT, decide_true, k3, m12, k4, m13, m14, eTup, eLst, fTuple_lN, nr, nz, mkL, a13, sFor, it, lp, oEq_lL]
  exact fin_same rfl
end Law
end
end
section
set_option Elab.async false
set_option linter.all false
set_option maxRecDepth 100000
set_option maxHeartbeats 1600000
noncomputable section
namespace Law
open Nb
theorem oAdd_tN (a b : List Nat) (h : Hpp) (hz : a.length + b.length ≤ 100000) : oAdd (tN a) (tN b) h = .ok (tN (a ++ b)) h := by
  have hle : (a.map nI).length + (b.map nI).length ≤ 16777216 := by rw [List.length_map, List.length_map]; omega
  simp only [oAdd, tN]
  rw [if_pos hle, List.map_append]
theorem l_eight {w : Nat} (h1 : 1 ≤ w) (h2 : w ≤ 12) {lots : List (List Nat)} (hc : ∀ S ∈ lots, canon w S) (hz : lots.length ≤ 8) {L : List Nat} (hL : canon w L) (hl : L.length < w) (h : Hpp) : F__law_eight_so [lT lots, nI w, tN L] h = .ok (.bl true) h := by
  have f := cB_fam w lots L
  have gL := GR_tN hL (by omega)
  have hl8 : (lots ++ List.replicate (8 - lots.length) (List.range w)).length = 8 := by simp; omega
  have gB : GB w (lT (lots ++ List.replicate (8 - lots.length) (List.range w))) (lots ++ List.replicate (8 - lots.length) (List.range w)) := GB_lT (by omega) (fun S hS => by
    rcases List.mem_append.mp hS with z | z
    · exact hc S z
    · rw [(List.mem_replicate.mp z).2]; exact canon_range w) (by omega)
  have m1 := fLen_lT lots h
  have m5 := l_carried h2 hz L h
  rw [carC_eq] at m5
  have m6 := l_rests hz (famC lots.length (cB w lots L)) h
  rw [rC_eq f] at m6
  have m7 := l_kernels (famC lots.length (cB w lots L)) (famC_len hz _) h
  rw [fold_kern f] at m7
  have m8 := s_rests h1 h2 gB gL hl h
  have m9 := s_kernels h1 h2 gB gL hl h
  rw [hl8, cB_pad, rest_more f hz] at m8
  rw [hl8, cB_pad, kern_more f hz] at m9
  have a8 := l_are (n := 8) (A := (restsL lots.length (cB w lots L)).map fun S => S ++ List.range' lots.length (8 - lots.length)) (fun S hS => by
    obtain ⟨R, hR, rfl⟩ := List.mem_map.mp hS
    exact canon_tail hz (mem_restsL.mp hR).1) h
  have a9 := l_are (n := 8) (A := kernL lots.length (cB w lots L)) (fun S hS => by
    have := (mem_kernL.mp hS).1
    exact ⟨this.1, fun x hx => Nat.lt_of_lt_of_le (this.2 x hx) hz⟩) h
  have k1 : (eLc false (iRg1 (aCons (eOp oSub (eC (.int 8)) (eVar 3)) aNil)) (tgN 8) bYes (eTupRg (mRg1 (eVar 1))) [8]) [some (lT lots), some (nI w), some (tN L), some (nI lots.length), none, none, none, none, none] h = .ok (lT (List.replicate (8 - lots.length) (List.range w))) h := by
    have e0 : oSub (.int 8) (nI lots.length) h = .ok (nI (8 - lots.length)) h := oSub_nat (a := 8) h hz
    have := lc_map (t := tgN 8) (te := (eTupRg (mRg1 (eVar 1)))) (vs := [8]) nI (List.range (8 - lots.length)) (fun _ => tN (List.range w)) (iRg1_e (m := (aCons (eOp oSub (eC (.int 8)) (eVar 3)) aNil)) (env := [some (lT lots), some (nI w), some (tN L), some (nI lots.length), none, none, none, none, none]) (h := h) (by omega) (by simp only [fnM, env0, sSeq, sSet, sRet, sRetN, sIf, sExpr, sNil, onR, eVar, eC, eOp, eAnd, eOr, eNot, eNeg, eIf, bAnd, bOr, bNot, bOp, bTru, asB, eChain, eCall, eFn, eFnD, eFnK, aCons, aNil, R.bind, List.length_cons, List.length_nil, List.replicate, List.map_cons, List.map_nil, List.cons_append, List.nil_append, List.getElem?_cons_zero, List.getElem?_cons_succ, List.set_cons_zero, List.set_cons_succ, wipeE, tgN, truth, bYes, pl_int, pl_bl, pl_non, pl_str, pl_tup, pl_lst, Nat.reduceAdd, Nat.reduceSub, Nat.reduceLT, if_true, Bool.true_and, Bool.and_true, Bool.not_true, Bool.not_false, Bool.false_eq_true, if_false, Nat.zero_add, truth_bl, fTuple_lst, fTuple_tup, e0])) (fun x _ c => ⟨[some (lT lots), some (nI w), some (tN L), some (nI lots.length), none, none, none, none, some (nI x)], rfl, eTupRg_e (mRg1_e (by omega) rfl)⟩) fun _ => rfl
    rw [this, lT]
    congr 2
    rw [List.map_replicate, List.map_const', List.length_range]
  have k2 := oAdd_lT lots (List.replicate (8 - lots.length) (List.range w)) h (by simp; omega)
  generalize hC : famC lots.length (cB w lots L) = C at *
  have c8 : ∀ S ∈ restsL lots.length (cB w lots L), canon lots.length S := fun S hS => (mem_restsL.mp hS).1
  generalize hR : restsL lots.length (cB w lots L) = Rs at *
  generalize hK : kernL lots.length (cB w lots L) = Ks at *
  generalize h8 : lots ++ List.replicate (8 - lots.length) (List.range w) = l8 at *
  have k3 : (eLc false (iAny (eFn 2 F__law_rests (aCons (eVar 3) (aCons (eVar 5) aNil)))) (tgN 7) bYes (eOp oAdd (eVar 7) (eTupRg (mRg2 (eVar 3) (eC (.int 8))))) [7]) [some (lT lots), some (nI w), some (tN L), some (nI lots.length), some (lT l8), some (lT C), none, none, none] h = .ok (lT (Rs.map fun S => S ++ List.range' lots.length (8 - lots.length))) h := by
    have := lc_map (t := tgN 7) (te := (eOp oAdd (eVar 7) (eTupRg (mRg2 (eVar 3) (eC (.int 8)))))) (vs := [7]) tN Rs (fun S => tN (S ++ List.range' lots.length (8 - lots.length))) (iAny_e (m := (eFn 2 F__law_rests (aCons (eVar 3) (aCons (eVar 5) aNil)))) (env := [some (lT lots), some (nI w), some (tN L), some (nI lots.length), some (lT l8), some (lT C), none, none, none]) (h := h) (d := lT Rs) (by simp only [fnM, env0, sSeq, sSet, sRet, sRetN, sIf, sExpr, sNil, onR, eVar, eC, eOp, eAnd, eOr, eNot, eNeg, eIf, bAnd, bOr, bNot, bOp, bTru, asB, eChain, eCall, eFn, eFnD, eFnK, aCons, aNil, R.bind, List.length_cons, List.length_nil, List.replicate, List.map_cons, List.map_nil, List.cons_append, List.nil_append, List.getElem?_cons_zero, List.getElem?_cons_succ, List.set_cons_zero, List.set_cons_succ, wipeE, tgN, truth, bYes, pl_int, pl_bl, pl_non, pl_str, pl_tup, pl_lst, Nat.reduceAdd, Nat.reduceSub, Nat.reduceLT, if_true, Bool.true_and, Bool.and_true, Bool.not_true, Bool.not_false, Bool.false_eq_true, if_false, Nat.zero_add, truth_bl, fTuple_lst, fTuple_tup, m6]) (.inr rfl)) (fun S hS c => ⟨[some (lT lots), some (nI w), some (tN L), some (nI lots.length), some (lT l8), some (lT C), none, some (tN S), none], rfl, by
      have e1 : eTupRg (mRg2 (eVar 3) (eC (.int 8))) [some (lT lots), some (nI w), some (tN L), some (nI lots.length), some (lT l8), some (lT C), none, some (tN S), none] (h ++ [c]) = .ok (tN (List.range' lots.length (8 - lots.length))) (h ++ [c]) := eTupRg_e2 (mRg2_e (by omega) (b := 8) (by omega) rfl rfl)
      have e2 := oAdd_tN S (List.range' lots.length (8 - lots.length)) (h ++ [c]) (by have := canon_length (c8 S hS); rw [List.length_range']; omega)
      simp only [fnM, env0, sSeq, sSet, sRet, sRetN, sIf, sExpr, sNil, onR, eVar, eC, eOp, eAnd, eOr, eNot, eNeg, eIf, bAnd, bOr, bNot, bOp, bTru, asB, eChain, eCall, eFn, eFnD, eFnK, aCons, aNil, R.bind, List.length_cons, List.length_nil, List.replicate, List.map_cons, List.map_nil, List.cons_append, List.nil_append, List.getElem?_cons_zero, List.getElem?_cons_succ, List.set_cons_zero, List.set_cons_succ, wipeE, tgN, truth, bYes, pl_int, pl_bl, pl_non, pl_str, pl_tup, pl_lst, Nat.reduceAdd, Nat.reduceSub, Nat.reduceLT, if_true, Bool.true_and, Bool.and_true, Bool.not_true, Bool.not_false, Bool.false_eq_true, if_false, Nat.zero_add, truth_bl, fTuple_lst, fTuple_tup, e1, e2]⟩) fun _ => rfl
    rw [this, lT, List.map_map]; rfl
  have a8' : F__law_sublists_are [tTs (Rs.map fun S => S ++ List.range' lots.length (8 - lots.length)), lT (Rs.map fun S => S ++ List.range' lots.length (8 - lots.length)), .int 8] h = .ok (.bl true) h := a8
  have a9' : F__law_sublists_are [tTs Ks, lT Ks, .int 8] h = .ok (.bl true) h := a9
  simp only [F__law_eight_so, m__law_eight_so, fnM, env0, sSeq, sSet, sRet, sRetN, sIf, sExpr, sNil, onR, eVar, eC, eOp, eAnd, eOr, eNot, eNeg, eIf, bAnd, bOr, bNot, bOp, bTru, asB, eChain, eCall, eFn, eFnD, eFnK, aCons, aNil, R.bind, List.length_cons, List.length_nil, List.replicate, List.map_cons, List.map_nil, List.cons_append, List.nil_append, List.getElem?_cons_zero, List.getElem?_cons_succ, List.set_cons_zero, List.set_cons_succ, wipeE, tgN, truth, bYes, pl_int, pl_bl, pl_non, pl_str, pl_tup, pl_lst, Nat.reduceAdd, Nat.reduceSub, Nat.reduceLT, if_true, Bool.true_and, Bool.and_true, Bool.not_true, Bool.not_false, Bool.false_eq_true, if_false, Nat.zero_add, truth_bl, fTuple_lst, fTuple_tup, m1, k1, k2, m5, k3, m8, m9, m7, a8', a9']
  exact fin_same rfl
end Law
end
end
section
set_option Elab.async false
set_option linter.all false
set_option maxRecDepth 100000
set_option maxHeartbeats 1600000
noncomputable section
namespace Law
open Nb
theorem l_whole {w : Nat} (h1 : 1 ≤ w) (h2 : w ≤ 12) {lots : List (List Nat)} (hc : ∀ S ∈ lots, canon w S) (hz : lots.length ≤ 8) (k : Nat) (hk : k < 5) (h : Hpp) : F__law_whole_refused [nI k, lT lots, nI w] h = .ok (.bl true) h := by
  have gB := GB_lT (by omega : w ≤ 1000) hc hz
  have gL := GR_tN (canon_range w) (by omega)
  have hl : (List.range w).length = w := List.length_range
  have m0 := s_rests_all h1 h2 gB gL hl h
  have m1 := s_kernels_all h1 h2 gB gL hl h
  have m2 := s_in_every_all h1 h2 gB gL hl h
  have m3 := s_in_no_all h1 h2 gB gL hl h
  have m4 := s_is_rest_all (sub := .non) h1 h2 gB gL hl h
  have e1 : eTupRg (mRg1 (eVar 2)) [some (nI k), some (lT lots), some (nI w), none, none, none] h = .ok (tN (List.range w)) h := eTupRg_e (mRg1_e (by omega) rfl)
  have fin : ∀ (k : Nat), sHandle 2 [("place", .int (-1))] [some (nI k), some (lT lots), some (nI w), some (tN (List.range w)), some (.int 0), none] h [([2], 5, fun a fl => (sSet 4 (eXf a fl 5 "place")))] = .nx [some (nI k), some (lT lots), some (nI w), some (tN (List.range w)), some (.int (-1)), none] h := fun k => by
    have hc : ([2] : List Nat).contains 2 = true := rfl
    have hl : 5 < [some (nI k), some (lT lots), some (nI w), some (tN (List.range w)), some (D.int 0), none].length := by simp
    unfold sHandle
    rw [if_pos hc, if_pos hl]
    exact sAny_eq fun a => by simp [fnM, env0, sSeq, sSet, sRet, sRetN, sIf, sExpr, sNil, onR, eVar, eC, eOp, eAnd, eOr, eNot, eNeg, eIf, bAnd, bOr, bNot, bOp, bTru, asB, eChain, eCall, eFn, eFnD, eFnK, aCons, aNil, R.bind, List.length_cons, List.length_nil, List.replicate, List.map_cons, List.map_nil, List.cons_append, List.nil_append, List.getElem?_cons_zero, List.getElem?_cons_succ, List.set_cons_zero, List.set_cons_succ, wipeE, tgN, truth, bYes, pl_int, pl_bl, pl_non, pl_str, pl_tup, pl_lst, Nat.reduceAdd, Nat.reduceSub, Nat.reduceLT, if_true, Bool.true_and, Bool.and_true, Bool.not_true, Bool.not_false, Bool.false_eq_true, if_false, Nat.zero_add, truth_bl, fTuple_lst, fTuple_tup, eXf, SF.gone]
  have no : ∀ j : Int, (k : Int) ≠ j → oEq (nI k) (.int j) h = .ok (.bl false) h := fun j hj => by rw [oEq_int, decide_eq_false hj]
  have yes : ∀ j : Int, (k : Int) = j → oEq (nI k) (.int j) h = .ok (.bl true) h := fun j hj => by rw [oEq_int, decide_eq_true hj]
  have key : (sTryAs (sIf (bOp oEq (eVar 0) (eC (.int 0))) (sExpr (eFn 3 F_rests (aCons (eVar 1) (aCons (eVar 2) (aCons (eVar 3) aNil))))) (sIf (bOp oEq (eVar 0) (eC (.int 1))) (sExpr (eFn 3 F_kernels (aCons (eVar 1) (aCons (eVar 2) (aCons (eVar 3) aNil))))) (sIf (bOp oEq (eVar 0) (eC (.int 2))) (sExpr (eFn 3 F_in_every_rest (aCons (eVar 1) (aCons (eVar 2) (aCons (eVar 3) aNil))))) (sIf (bOp oEq (eVar 0) (eC (.int 3))) (sExpr (eFn 3 F_in_no_kernel (aCons (eVar 1) (aCons (eVar 2) (aCons (eVar 3) aNil))))) (sExpr (eFn 4 F_is_rest (aCons (eVar 1) (aCons (eVar 2) (aCons (eVar 3) (aCons (eC .non) aNil)))))))))) (([2], 5, fun a fl => (sSet 4 (eXf a fl 5 "place"))) :: [])) [some (nI k), some (lT lots), some (nI w), some (tN (List.range w)), some (.int 0), none] h = .nx [some (nI k), some (lT lots), some (nI w), some (tN (List.range w)), some (.int (-1)), none] h := by
    have f := fin k
    rcases (show k = 0 ∨ k = 1 ∨ k = 2 ∨ k = 3 ∨ k = 4 by omega) with e | e | e | e | e
    · have z0 := yes 0 (by omega)
      simp only [sTryAs, fnM, env0, sSeq, sSet, sRet, sRetN, sIf, sExpr, sNil, onR, eVar, eC, eOp, eAnd, eOr, eNot, eNeg, eIf, bAnd, bOr, bNot, bOp, bTru, asB, eChain, eCall, eFn, eFnD, eFnK, aCons, aNil, R.bind, List.length_cons, List.length_nil, List.replicate, List.map_cons, List.map_nil, List.cons_append, List.nil_append, List.getElem?_cons_zero, List.getElem?_cons_succ, List.set_cons_zero, List.set_cons_succ, wipeE, tgN, truth, bYes, pl_int, pl_bl, pl_non, pl_str, pl_tup, pl_lst, Nat.reduceAdd, Nat.reduceSub, Nat.reduceLT, if_true, Bool.true_and, Bool.and_true, Bool.not_true, Bool.not_false, Bool.false_eq_true, if_false, Nat.zero_add, truth_bl, fTuple_lst, fTuple_tup, z0, m0, f]
    · have z0 := no 0 (by omega)
      have z1 := yes 1 (by omega)
      simp only [sTryAs, fnM, env0, sSeq, sSet, sRet, sRetN, sIf, sExpr, sNil, onR, eVar, eC, eOp, eAnd, eOr, eNot, eNeg, eIf, bAnd, bOr, bNot, bOp, bTru, asB, eChain, eCall, eFn, eFnD, eFnK, aCons, aNil, R.bind, List.length_cons, List.length_nil, List.replicate, List.map_cons, List.map_nil, List.cons_append, List.nil_append, List.getElem?_cons_zero, List.getElem?_cons_succ, List.set_cons_zero, List.set_cons_succ, wipeE, tgN, truth, bYes, pl_int, pl_bl, pl_non, pl_str, pl_tup, pl_lst, Nat.reduceAdd, Nat.reduceSub, Nat.reduceLT, if_true, Bool.true_and, Bool.and_true, Bool.not_true, Bool.not_false, Bool.false_eq_true, if_false, Nat.zero_add, truth_bl, fTuple_lst, fTuple_tup, z0, z1, m1, f]
    · have z0 := no 0 (by omega)
      have z1 := no 1 (by omega)
      have z2 := yes 2 (by omega)
      simp only [sTryAs, fnM, env0, sSeq, sSet, sRet, sRetN, sIf, sExpr, sNil, onR, eVar, eC, eOp, eAnd, eOr, eNot, eNeg, eIf, bAnd, bOr, bNot, bOp, bTru, asB, eChain, eCall, eFn, eFnD, eFnK, aCons, aNil, R.bind, List.length_cons, List.length_nil, List.replicate, List.map_cons, List.map_nil, List.cons_append, List.nil_append, List.getElem?_cons_zero, List.getElem?_cons_succ, List.set_cons_zero, List.set_cons_succ, wipeE, tgN, truth, bYes, pl_int, pl_bl, pl_non, pl_str, pl_tup, pl_lst, Nat.reduceAdd, Nat.reduceSub, Nat.reduceLT, if_true, Bool.true_and, Bool.and_true, Bool.not_true, Bool.not_false, Bool.false_eq_true, if_false, Nat.zero_add, truth_bl, fTuple_lst, fTuple_tup, z0, z1, z2, m2, f]
    · have z0 := no 0 (by omega)
      have z1 := no 1 (by omega)
      have z2 := no 2 (by omega)
      have z3 := yes 3 (by omega)
      simp only [sTryAs, fnM, env0, sSeq, sSet, sRet, sRetN, sIf, sExpr, sNil, onR, eVar, eC, eOp, eAnd, eOr, eNot, eNeg, eIf, bAnd, bOr, bNot, bOp, bTru, asB, eChain, eCall, eFn, eFnD, eFnK, aCons, aNil, R.bind, List.length_cons, List.length_nil, List.replicate, List.map_cons, List.map_nil, List.cons_append, List.nil_append, List.getElem?_cons_zero, List.getElem?_cons_succ, List.set_cons_zero, List.set_cons_succ, wipeE, tgN, truth, bYes, pl_int, pl_bl, pl_non, pl_str, pl_tup, pl_lst, Nat.reduceAdd, Nat.reduceSub, Nat.reduceLT, if_true, Bool.true_and, Bool.and_true, Bool.not_true, Bool.not_false, Bool.false_eq_true, if_false, Nat.zero_add, truth_bl, fTuple_lst, fTuple_tup, z0, z1, z2, z3, m3, f]
    · have z0 := no 0 (by omega)
      have z1 := no 1 (by omega)
      have z2 := no 2 (by omega)
      have z3 := no 3 (by omega)
      simp only [sTryAs, fnM, env0, sSeq, sSet, sRet, sRetN, sIf, sExpr, sNil, onR, eVar, eC, eOp, eAnd, eOr, eNot, eNeg, eIf, bAnd, bOr, bNot, bOp, bTru, asB, eChain, eCall, eFn, eFnD, eFnK, aCons, aNil, R.bind, List.length_cons, List.length_nil, List.replicate, List.map_cons, List.map_nil, List.cons_append, List.nil_append, List.getElem?_cons_zero, List.getElem?_cons_succ, List.set_cons_zero, List.set_cons_succ, wipeE, tgN, truth, bYes, pl_int, pl_bl, pl_non, pl_str, pl_tup, pl_lst, Nat.reduceAdd, Nat.reduceSub, Nat.reduceLT, if_true, Bool.true_and, Bool.and_true, Bool.not_true, Bool.not_false, Bool.false_eq_true, if_false, Nat.zero_add, truth_bl, fTuple_lst, fTuple_tup, z0, z1, z2, z3, m4, f]
  simp only [F__law_whole_refused, m__law_whole_refused, fnM, env0, sSeq, sSet, sRet, sRetN, sIf, sExpr, sNil, onR, eVar, eC, eOp, eAnd, eOr, eNot, eNeg, eIf, bAnd, bOr, bNot, bOp, bTru, asB, eChain, eCall, eFn, eFnD, eFnK, aCons, aNil, R.bind, List.length_cons, List.length_nil, List.replicate, List.map_cons, List.map_nil, List.cons_append, List.nil_append, List.getElem?_cons_zero, List.getElem?_cons_succ, List.set_cons_zero, List.set_cons_succ, wipeE, tgN, truth, bYes, pl_int, pl_bl, pl_non, pl_str, pl_tup, pl_lst, Nat.reduceAdd, Nat.reduceSub, Nat.reduceLT, if_true, Bool.true_and, Bool.and_true, Bool.not_true, Bool.not_false, Bool.false_eq_true, if_false, Nat.zero_add, truth_bl, fTuple_lst, fTuple_tup, e1, key, oEq_int]
  exact fin_same rfl
end Law
end
end
section
set_option Elab.async false
set_option linter.all false
set_option maxRecDepth 100000
set_option maxHeartbeats 1600000
noncomputable section
namespace Law
open Nb
open PySem (Str)
def doorD : Nat → D
  | 0 => .tup [.str "number", .str "many"]
  | 1 => .tup [.str "number", .str "many"]
  | 2 => .tup [.str "number", .str "many"]
  | 3 => .tup [.str "order", .int (-1)]
  | 4 => .tup [.str "order", .int 1]
  | 5 => .tup [.str "order", .int (-1)]
  | _ => .tup [.str "order", .int 1]
theorem pl2_none : plain D.non = true := nd rfl
theorem strange2 (h : Hpp) : F_places_of [.tup [.int 2], nI 2] h = .exc 3 [("place", nI 0)] h :=
  s_places_bad 2 _ h (plain2_rowN (ns := [2]) (.inl rfl) (by simp)) [.int 2] 0 rfl (by simp [strange, okW])
theorem strange02 (h : Hpp) : F_places_of [.tup [.int 0, .int 2], nI 2] h = .exc 3 [("place", nI 1)] h :=
  s_places_bad 2 _ h (plain2_rowN (ns := [0, 2]) (.inl rfl) (by simp)) [.int 0, .int 2] 1 rfl (by simp [strange, okW, natOf])
theorem GR_10 : GR 2 (.tup [.int 1, .int 0]) [0, 1] := ⟨[1, 0], rfl, by decide, by decide, plain2_rowN (ns := [1, 0]) (.inl rfl) (by simp), by decide⟩
theorem l_door (k : Nat) (hk : k < 7) (h : Hpp) : F__law_list_door [nI k] h = .ok (doorD k) h := by
  have m0 := s_hit_nine .non h
  have m1 := s_left_nine .non h
  have m2 := s_all_nine h
  have m3 : F_hitting [.non, .int 2] h = _ := s_hit_none (n := 2) (by omega) (d := .non) rfl rfl h
  have m4 : F_hitting [.lst [.tup [.int 1, .int 0], .tup [.int 2]], .int 2] h = .exc 3 [("place", .int 1)] h := s_hit_exc (n := 2) (by omega) (d := .lst [.tup [.int 1, .int 0], .tup [.int 2]]) (b := .tup [.int 2]) (gs := [(.tup [.int 1, .int 0], [0, 1])]) (rest := []) rfl rfl (fun p hp => by
    have : p = (.tup [.int 1, .int 0], [0, 1]) := by simpa using hp
    subst this; exact GR_10) (by simp) strange2 h
  have m5 : F_left_out [.non, .int 2] h = .exc 3 [("place", .int (-1))] h := s_left_exc (n := 2) (by omega) h (s_places_none 2 .non h rfl rfl)
  have m6 : F_left_out [.tup [.int 0, .int 2], .int 2] h = .exc 3 [("place", .int 1)] h := s_left_exc (n := 2) (by omega) h (strange02 h)
  have nz : decide ((2 : Nat) ≤ LINE) = true := by decide
  have nz' : ((2 : Nat) ≤ LINE) = True := eq_true (by decide)
  have nz1 : ((1 : Nat) ≤ LINE) = True := eq_true (by decide)
  have key : (sTryAs (sIf (bOp oEq (eVar 0) (eC (.int 0))) (sExpr (eFn 2 F_hitting (aCons (eC .non) (aCons (eC (.int 9)) aNil)))) (sIf (bOp oEq (eVar 0) (eC (.int 1))) (sExpr (eFn 2 F_left_out (aCons (eC .non) (aCons (eC (.int 9)) aNil)))) (sIf (bOp oEq (eVar 0) (eC (.int 2))) (sExpr (eFn 1 F_all_sublists (aCons (eC (.int 9)) aNil))) (sIf (bOp oEq (eVar 0) (eC (.int 3))) (sExpr (eFn 2 F_hitting (aCons (eC .non) (aCons (eC (.int 2)) aNil)))) (sIf (bOp oEq (eVar 0) (eC (.int 4))) (sExpr (eFn 2 F_hitting (aCons (eLst false (aCons (eTup (aCons (eC (.int 1)) (aCons (eC (.int 0)) aNil))) (aCons (eTup (aCons (eC (.int 2)) aNil)) aNil))) (aCons (eC (.int 2)) aNil)))) (sIf (bOp oEq (eVar 0) (eC (.int 5))) (sExpr (eFn 2 F_left_out (aCons (eC .non) (aCons (eC (.int 2)) aNil)))) (sExpr (eFn 2 F_left_out (aCons (eTup (aCons (eC (.int 0)) (aCons (eC (.int 2)) aNil))) (aCons (eC (.int 2)) aNil)))))))))) (([1], 2, fun a fl => (sSet 1 (eTup (aCons (eC (.str ("number" : Str))) (aCons (eXf a fl 2 "name") aNil))))) :: (([3], 2, fun a fl => (sSet 1 (eTup (aCons (eC (.str ("order" : Str))) (aCons (eXf a fl 2 "place") aNil))))) :: []))) [some (nI k), some (.tup [.str "none", .int 0]), none] h = .nx [some (nI k), some (doorD k), none] h := by
    rcases (show k = 0 ∨ k = 1 ∨ k = 2 ∨ k = 3 ∨ k = 4 ∨ k = 5 ∨ k = 6 by omega) with z | z | z | z | z | z | z <;> subst z <;>
      (simp only [sTryAs, fnM, env0, sSeq, sSet, sRet, sRetN, sIf, sExpr, sNil, onR, eVar, eC, eOp, eAnd, eOr, eNot, eNeg, eIf, bAnd, bOr, bNot, bOp, bTru, asB, eChain, eCall, eFn, eFnD, eFnK, aCons, aNil, R.bind, List.length_cons, List.length_nil, List.replicate, List.map_cons, List.map_nil, List.cons_append, List.nil_append, List.getElem?_cons_zero, List.getElem?_cons_succ, List.set_cons_zero, List.set_cons_succ, wipeE, tgN, truth, bYes, pl_int, pl_bl, pl_non, pl_str, pl_tup, pl_lst, Nat.reduceAdd, Nat.reduceSub, Nat.reduceLT, if_true, Bool.true_and, Bool.and_true, Bool.not_true, Bool.not_false, Bool.false_eq_true, if_false, Nat.zero_add, truth_bl, fTuple_lst, fTuple_tup, nI, oEq_int]
       simp [fnM, env0, sSeq, sSet, sRet, sRetN, sIf, sExpr, sNil, onR, eVar, eC, eOp, eAnd, eOr, eNot, eNeg, eIf, bAnd, bOr, bNot, bOp, bTru, asB, eChain, eCall, eFn, eFnD, eFnK, aCons, aNil, R.bind, List.length_cons, List.length_nil, List.replicate, List.map_cons, List.map_nil, List.cons_append, List.nil_append, List.getElem?_cons_zero, List.getElem?_cons_succ, List.set_cons_zero, List.set_cons_succ, wipeE, tgN, truth, bYes, pl_int, pl_bl, pl_non, pl_str, pl_tup, pl_lst, Nat.reduceAdd, Nat.reduceSub, Nat.reduceLT, if_true, Bool.true_and, Bool.and_true, Bool.not_true, Bool.not_false, Bool.false_eq_true, if_false, Nat.zero_add, truth_bl, fTuple_lst, fTuple_tup, eTup, eLst, noRefs, D.isRef, mkL, eNeg, nz', nz1, m0, m1, m2, m3, m4, m5, m6, sHandle]
       exact sAny_eq fun a => by simp [fnM, env0, sSeq, sSet, sRet, sRetN, sIf, sExpr, sNil, onR, eVar, eC, eOp, eAnd, eOr, eNot, eNeg, eIf, bAnd, bOr, bNot, bOp, bTru, asB, eChain, eCall, eFn, eFnD, eFnK, aCons, aNil, R.bind, List.length_cons, List.length_nil, List.replicate, List.map_cons, List.map_nil, List.cons_append, List.nil_append, List.getElem?_cons_zero, List.getElem?_cons_succ, List.set_cons_zero, List.set_cons_succ, wipeE, tgN, truth, bYes, pl_int, pl_bl, pl_non, pl_str, pl_tup, pl_lst, Nat.reduceAdd, Nat.reduceSub, Nat.reduceLT, if_true, Bool.true_and, Bool.and_true, Bool.not_true, Bool.not_false, Bool.false_eq_true, if_false, Nat.zero_add, truth_bl, fTuple_lst, fTuple_tup, eXf, SF.gone, eTup, noRefs, D.isRef, doorD, nz'])
  have e0 : eTup (aCons (eC (.str ("none" : PySem.Str))) (aCons (eC (.int 0)) aNil)) [some (nI k), none, none] h = .ok (.tup [.str "none", .int 0]) h := rfl
  simp only [F__law_list_door, m__law_list_door, fnM, env0, sSeq, sSet, sRet, sRetN, sIf, sExpr, sNil, onR, eVar, eC, eOp, eAnd, eOr, eNot, eNeg, eIf, bAnd, bOr, bNot, bOp, bTru, asB, eChain, eCall, eFn, eFnD, eFnK, aCons, aNil, R.bind, List.length_cons, List.length_nil, List.replicate, List.map_cons, List.map_nil, List.cons_append, List.nil_append, List.getElem?_cons_zero, List.getElem?_cons_succ, List.set_cons_zero, List.set_cons_succ, wipeE, tgN, truth, bYes, pl_int, pl_bl, pl_non, pl_str, pl_tup, pl_lst, Nat.reduceAdd, Nat.reduceSub, Nat.reduceLT, if_true, Bool.true_and, Bool.and_true, Bool.not_true, Bool.not_false, Bool.false_eq_true, if_false, Nat.zero_add, truth_bl, fTuple_lst, fTuple_tup, e0, key]
  rcases (show k = 0 ∨ k = 1 ∨ k = 2 ∨ k = 3 ∨ k = 4 ∨ k = 5 ∨ k = 6 by omega) with z | z | z | z | z | z | z <;> subst z <;> exact fin_same rfl
end Law
end
end
section
set_option Elab.async false
set_option linter.all false
set_option maxRecDepth 100000
set_option maxHeartbeats 1600000
noncomputable section
namespace Law
open Nb
open PySem (Str PyData)
open PyProof
theorem oEq_me {d : D} (h : Hpp) (hr : d.isRef = false) (hp : isPy d = true) (hc : (toPy d).canLay0 = true) (hd : (toPy d).depth ≤ 64) : oEq d d h = .ok (.bl true) h := by
  simp only [oEq, pyOf_ok hr hp, shaped_of hc hd, Bool.and_self, if_true, PySem.SeqAt.eqv_refl _ hc]
theorem oNe_me {d : D} (h : Hpp) (hr : d.isRef = false) (hp : isPy d = true) (hc : (toPy d).canLay0 = true) (hd : (toPy d).depth ≤ 64) : oNe d d h = .ok (.bl false) h := by
  simp only [oNe, pyOf_ok hr hp, shaped_of hc hd, Bool.and_self, if_true, PySem.SeqAt.eqv_refl _ hc, Bool.not_true]
theorem r_tup (l : List D) : (D.tup l).isRef = false := rfl
theorem r_str (l : Str) : (D.str l).isRef = false := rfl
theorem r_int (l : Int) : (D.int l).isRef = false := rfl
theorem r_door : (doorD 0).isRef = false := rfl
theorem so1 : PyData.strOk ("number" : Str) = true := by decide +kernel
theorem so2 : PyData.strOk ("many" : Str) = true := by decide +kernel
theorem so3 : PyData.strOk ("order" : Str) = true := by decide +kernel
theorem l_doors_so {w : Nat} (h1 : 1 ≤ w) (h2 : w ≤ 12) {lots : List (List Nat)} (hc : ∀ S ∈ lots, canon w S) (hz : lots.length ≤ 8) (h : Hpp) : F__law_doors_so [lT lots, nI w] h = .ok (.bl true) h := by
  obtain ⟨e2, h2', q, rfl, x2, rfl⟩ := forGo_rng (t := tgN 2) (body := (sIf (bNot (bTru (eFn 3 F__law_whole_refused (aCons (eVar 2) (aCons (eVar 0) (aCons (eVar 1) aNil)))))) (sRet (eC (.bl false))) sNil)) (env := [some (lT lots), some (nI w), none, none, none]) (hh := h) 5 (fun i env hh => hh = h ∧ ∃ x2, env = [some (lT lots), some (nI w), x2, none, none]) (fun i env hh hi ⟨i1, x2, i2⟩ => by
    subst i1; subst i2
    refine ⟨[some (lT lots), some (nI w), some (nI i), none, none], [some (lT lots), some (nI w), some (nI i), none, none], _, rfl, ?_, rfl, _, rfl⟩
    have m := l_whole h1 h2 hc hz i hi hh
    simp only [fnM, env0, sSeq, sSet, sRet, sRetN, sIf, sExpr, sNil, onR, eVar, eC, eOp, eAnd, eOr, eNot, eNeg, eIf, bAnd, bOr, bNot, bOp, bTru, asB, eChain, eCall, eFn, eFnD, eFnK, aCons, aNil, R.bind, List.length_cons, List.length_nil, List.replicate, List.map_cons, List.map_nil, List.cons_append, List.nil_append, List.getElem?_cons_zero, List.getElem?_cons_succ, List.set_cons_zero, List.set_cons_succ, wipeE, tgN, truth, bYes, pl_int, pl_bl, pl_non, pl_str, pl_tup, pl_lst, Nat.reduceAdd, Nat.reduceSub, Nat.reduceLT, if_true, Bool.true_and, Bool.and_true, Bool.not_true, Bool.not_false, Bool.false_eq_true, if_false, Nat.zero_add, truth_bl, fTuple_lst, fTuple_tup, m]) ⟨rfl, none, rfl⟩
  have it : (iRg1 (aCons (eC (.int 5)) aNil)) [some (lT lots), some (nI w), none, none, none] h2' = .ok ⟨(List.range 5).map nI, []⟩ h2' := iRg1_e (n := 5) (by omega) rfl
  have k1 : (eLc false (iRg1 (aCons (eC (.int 7)) aNil)) (tgN 2) bYes (eFn 1 F__law_list_door (aCons (eVar 2) aNil)) [2]) [some (lT lots), some (nI w), x2, none, none] h2' = .ok (.lst ((List.range 7).map doorD)) h2' :=
    lc_map nI (List.range 7) doorD (iRg1_e (n := 7) (by omega) rfl) (fun i hi c => ⟨[some (lT lots), some (nI w), some (nI i), none, none], by rfl, by
      have m := l_door i (List.mem_range.mp hi) (h2' ++ [c])
      simp only [fnM, env0, sSeq, sSet, sRet, sRetN, sIf, sExpr, sNil, onR, eVar, eC, eOp, eAnd, eOr, eNot, eNeg, eIf, bAnd, bOr, bNot, bOp, bTru, asB, eChain, eCall, eFn, eFnD, eFnK, aCons, aNil, R.bind, List.length_cons, List.length_nil, List.replicate, List.map_cons, List.map_nil, List.cons_append, List.nil_append, List.getElem?_cons_zero, List.getElem?_cons_succ, List.set_cons_zero, List.set_cons_succ, wipeE, tgN, truth, bYes, pl_int, pl_bl, pl_non, pl_str, pl_tup, pl_lst, Nat.reduceAdd, Nat.reduceSub, Nat.reduceLT, if_true, Bool.true_and, Bool.and_true, Bool.not_true, Bool.not_false, Bool.false_eq_true, if_false, Nat.zero_add, truth_bl, fTuple_lst, fTuple_tup, m]⟩) fun i => by unfold doorD; split <;> rfl
  have e1 : eTup (aCons (eC (.str ("number" : Str))) (aCons (eC (.str ("many" : Str))) aNil)) [some (lT lots), some (nI w), x2, some (.lst ((List.range 7).map doorD)), none] h2' = .ok (doorD 0) h2' := rfl
  have hdd : (D.lst ((List.range 7).map doorD)) = .lst [doorD 0, doorD 0, doorD 0, .tup [.str "order", .int (-1)], .tup [.str "order", .int 1], .tup [.str "order", .int (-1)], .tup [.str "order", .int 1]] := rfl
  have ne := oNe_me (d := .lst ((List.range 7).map doorD)) h2' rfl (by rw [hdd]; simp [isPy, isPyL, doorD, so1, so2, so3]) (by rw [hdd]; simp [toPy, toPyL, doorD, PyData.canLay0, PyData.canLayAll0, so1, so2, so3]) (by rw [hdd]; simp [toPy, toPyL, doorD, PyData.depth, PyData.depthAll])
  rw [hdd] at ne
  have a1 : F_left_out [.tup [.int 1, .int 0], .int 2] h2' = .ok (tN (coL 2 [0, 1])) h2' := s_left_out (n := 2) (by omega) GR_10 h2'
  have a2 : F_hitting [.lst [], .int 0] h2' = .ok (tTs (hitL 0 [])) h2' := s_hitting (n := 0) (by omega) ⟨[], rfl, rfl, fun p hp => by simp at hp, by simp, rfl⟩ h2'
  have a3 : F_hitting [.lst [.tup []], .int 1] h2' = .ok (tTs (hitL 1 [[]])) h2' := s_hitting (n := 1) (by omega) ⟨[(.tup [], [])], rfl, rfl, fun p hp => by
    have : p = (.tup [], []) := by simpa using hp
    subst this; exact GR_tN (canon_nil 1) (by omega), by simp, rfl⟩ h2'
  have b1 : coL 2 [0, 1] = [] := by decide
  have b2 : hitL 0 [] = [[]] := by decide
  have b3 : hitL 1 [[]] = [] := by decide
  rw [b1] at a1
  rw [b2] at a2
  rw [b3] at a3
  have c1 : oEq (tN []) (.tup []) h2' = .ok (.bl true) h2' := oEq_tN h2' [] []
  have c2 : oEq (tTs [[]]) (.tup [.tup []]) h2' = .ok (.bl true) h2' := oEq_tT h2' [[]] [[]]
  have c3 : oEq (tTs []) (.tup []) h2' = .ok (.bl true) h2' := oEq_tT h2' [] []
  have nz1 : ((1 : Nat) ≤ LINE) = True := eq_true (by decide)
  have nz2 : ((2 : Nat) ≤ LINE) = True := eq_true (by decide)
  have nz7 : ((7 : Nat) ≤ LINE) = True := eq_true (by decide)
  rw [hdd] at k1 e1
  have nr : noRefs [doorD 0, doorD 0, doorD 0, .tup [.str "order", .int (-1)], .tup [.str "order", .int 1], .tup [.str "order", .int (-1)], .tup [.str "order", .int 1]] = true := rfl
  simp only [F__law_doors_so, m__law_doors_so, fnM, env0, sSeq, sSet, sRet, sRetN, sIf, sExpr, sNil, onR, eVar, eC, eOp, eAnd, eOr, eNot, eNeg, eIf, bAnd, bOr, bNot, bOp, bTru, asB, eChain, eCall, eFn, eFnD, eFnK, aCons, aNil, R.bind, List.length_cons, List.length_nil, List.replicate, List.map_cons, List.map_nil, List.cons_append, List.nil_append, List.getElem?_cons_zero, List.getElem?_cons_succ, List.set_cons_zero, List.set_cons_succ, wipeE, tgN, truth, bYes, pl_int, pl_bl, pl_non, pl_str, pl_tup, pl_lst, Nat.reduceAdd, Nat.reduceSub, Nat.reduceLT, if_true, Bool.true_and, Bool.and_true, Bool.not_true, Bool.not_false, Bool.false_eq_true, if_false, Nat.zero_add, truth_bl, fTuple_lst, fTuple_tup, sFor, it, q, k1, e1]
  simp [fnM, env0, sSeq, sSet, sRet, sRetN, sIf, sExpr, sNil, onR, eVar, eC, eOp, eAnd, eOr, eNot, eNeg, eIf, bAnd, bOr, bNot, bOp, bTru, asB, eChain, eCall, eFn, eFnD, eFnK, aCons, aNil, R.bind, List.length_cons, List.length_nil, List.replicate, List.map_cons, List.map_nil, List.cons_append, List.nil_append, List.getElem?_cons_zero, List.getElem?_cons_succ, List.set_cons_zero, List.set_cons_succ, wipeE, tgN, truth, bYes, pl_int, pl_bl, pl_non, pl_str, pl_tup, pl_lst, Nat.reduceAdd, Nat.reduceSub, Nat.reduceLT, if_true, Bool.true_and, Bool.and_true, Bool.not_true, Bool.not_false, Bool.false_eq_true, if_false, Nat.zero_add, truth_bl, fTuple_lst, fTuple_tup, eLst, eTup, eNeg, noRefs, r_tup, r_str, r_int, r_door, mkL, nz1, nz2, nz7, ne, a1, a2, a3, c1, c2, c3]
  exact fin_same rfl
end Law
end
end
section
set_option Elab.async false
set_option linter.all false
set_option maxRecDepth 100000
set_option maxHeartbeats 1600000
noncomputable section
namespace Law
open Nb
open PySem (Str PyData)
theorem s_sub_ok {w : Nat} (h1 : 1 ≤ w) (h2 : w ≤ 12) {d sub : D} {lots : List (List Nat)} {S : List Nat} (g : GB w d lots) (gs : GR lots.length sub S) (h : Hpp) : F_sublist_of [d, nI w, sub] h = .ok (tN S) h := by
  have e1 := s_base_of h1 h2 g h
  have e2 := fLen_tTs lots h
  have e3 := s_places gs h
  simp only [F_sublist_of, m_sublist_of, fnM, env0, sSeq, sSet, sRet, sRetN, sIf, sExpr, sNil, onR, eVar, eC, eOp, eAnd, eOr, eNot, eNeg, eIf, bAnd, bOr, bNot, bOp, bTru, asB, eChain, eCall, eFn, eFnD, eFnK, aCons, aNil, R.bind, List.length_cons, List.length_nil, List.replicate, List.map_cons, List.map_nil, List.cons_append, List.nil_append, List.getElem?_cons_zero, List.getElem?_cons_succ, List.set_cons_zero, List.set_cons_succ, wipeE, tgN, truth, bYes, pl_int, pl_bl, pl_non, pl_str, pl_tup, pl_lst, Nat.reduceAdd, Nat.reduceSub, Nat.reduceLT, if_true, Bool.true_and, Bool.and_true, Bool.not_true, Bool.not_false, Bool.false_eq_true, if_false, Nat.zero_add, truth_bl, fTuple_lst, fTuple_tup, e1, e2, e3]
  exact fin_same rfl
theorem s_sub_exc {w : Nat} (h1 : 1 ≤ w) (h2 : w ≤ 12) {d sub x : D} {lots : List (List Nat)} (g : GB w d lots) (h : Hpp) (e : F_places_of [sub, nI lots.length] h = .exc 3 [("place", x)] h) : F_sublist_of [d, nI w, sub] h = .exc 3 [("place", x)] h := by
  have e1 := s_base_of h1 h2 g h
  have e2 := fLen_tTs lots h
  simp only [F_sublist_of, m_sublist_of, fnM, env0, sSeq, sSet, sRet, sRetN, sIf, sExpr, sNil, onR, eVar, eC, eOp, eAnd, eOr, eNot, eNeg, eIf, bAnd, bOr, bNot, bOp, bTru, asB, eChain, eCall, eFn, eFnD, eFnK, aCons, aNil, R.bind, List.length_cons, List.length_nil, List.replicate, List.map_cons, List.map_nil, List.cons_append, List.nil_append, List.getElem?_cons_zero, List.getElem?_cons_succ, List.set_cons_zero, List.set_cons_succ, wipeE, tgN, truth, bYes, pl_int, pl_bl, pl_non, pl_str, pl_tup, pl_lst, Nat.reduceAdd, Nat.reduceSub, Nat.reduceLT, if_true, Bool.true_and, Bool.and_true, Bool.not_true, Bool.not_false, Bool.false_eq_true, if_false, Nat.zero_add, truth_bl, fTuple_lst, fTuple_tup, e1, e2, e, List.take_length]
theorem s_sub_base {w : Nat} {d sub : D} {c : Nat} {l : Flds} (h : Hpp) (e : F_base_lots [d, nI w, .bl true] h = .exc c l h) : F_sublist_of [d, nI w, sub] h = .exc c l h := by
  simp only [F_sublist_of, m_sublist_of, F_base_of, m_base_of, fnM, env0, sSeq, sSet, sRet, sRetN, sIf, sExpr, sNil, onR, eVar, eC, eOp, eAnd, eOr, eNot, eNeg, eIf, bAnd, bOr, bNot, bOp, bTru, asB, eChain, eCall, eFn, eFnD, eFnK, aCons, aNil, R.bind, List.length_cons, List.length_nil, List.replicate, List.map_cons, List.map_nil, List.cons_append, List.nil_append, List.getElem?_cons_zero, List.getElem?_cons_succ, List.set_cons_zero, List.set_cons_succ, wipeE, tgN, truth, bYes, pl_int, pl_bl, pl_non, pl_str, pl_tup, pl_lst, Nat.reduceAdd, Nat.reduceSub, Nat.reduceLT, if_true, Bool.true_and, Bool.and_true, Bool.not_true, Bool.not_false, Bool.false_eq_true, if_false, Nat.zero_add, truth_bl, fTuple_lst, fTuple_tup, e, List.take_length]
abbrev rf (k : Str) (x : D) : D := .tup [.str k, x]
theorem nz2 : ((2 : Nat) ≤ LINE) = True := eq_true (by decide)
theorem nz1 : ((1 : Nat) ≤ LINE) = True := eq_true (by decide)
theorem ref_ok {w : D} {d sub y : D} (h : Hpp) (e : F_sublist_of [d, w, sub] h = .ok y h) : F__law_refused [d, w, sub] h = .ok (rf "none" (.int 0)) h := by
  have key : (sTryAs (sExpr (eFn 3 F_sublist_of (aCons (eVar 0) (aCons (eVar 1) (aCons (eVar 2) aNil))))) (([4], 4, fun a fl => (sSet 3 (eTup (aCons (eC (.str ("base" : Str))) (aCons (eXf a fl 4 "place") aNil))))) :: (([5], 4, fun a fl => (sSet 3 (eTup (aCons (eC (.str ("many" : Str))) (aCons (eXf a fl 4 "limit") aNil))))) :: (([3], 4, fun a fl => (sSet 3 (eTup (aCons (eC (.str ("order" : Str))) (aCons (eXf a fl 4 "place") aNil))))) :: [])))) [some d, some w, some sub, some (rf "none" (.int 0)), none] h = .nx [some d, some w, some sub, some (rf "none" (.int 0)), none] h := by
    simp only [sTryAs, fnM, env0, sSeq, sSet, sRet, sRetN, sIf, sExpr, sNil, onR, eVar, eC, eOp, eAnd, eOr, eNot, eNeg, eIf, bAnd, bOr, bNot, bOp, bTru, asB, eChain, eCall, eFn, eFnD, eFnK, aCons, aNil, R.bind, List.length_cons, List.length_nil, List.replicate, List.map_cons, List.map_nil, List.cons_append, List.nil_append, List.getElem?_cons_zero, List.getElem?_cons_succ, List.set_cons_zero, List.set_cons_succ, wipeE, tgN, truth, bYes, pl_int, pl_bl, pl_non, pl_str, pl_tup, pl_lst, Nat.reduceAdd, Nat.reduceSub, Nat.reduceLT, if_true, Bool.true_and, Bool.and_true, Bool.not_true, Bool.not_false, Bool.false_eq_true, if_false, Nat.zero_add, truth_bl, fTuple_lst, fTuple_tup, e]
  have e0 : eTup (aCons (eC (.str ("none" : Str))) (aCons (eC (.int 0)) aNil)) [some d, some w, some sub, none, none] h = .ok (rf "none" (.int 0)) h := rfl
  simp only [F__law_refused, m__law_refused, fnM, env0, sSeq, sSet, sRet, sRetN, sIf, sExpr, sNil, onR, eVar, eC, eOp, eAnd, eOr, eNot, eNeg, eIf, bAnd, bOr, bNot, bOp, bTru, asB, eChain, eCall, eFn, eFnD, eFnK, aCons, aNil, R.bind, List.length_cons, List.length_nil, List.replicate, List.map_cons, List.map_nil, List.cons_append, List.nil_append, List.getElem?_cons_zero, List.getElem?_cons_succ, List.set_cons_zero, List.set_cons_succ, wipeE, tgN, truth, bYes, pl_int, pl_bl, pl_non, pl_str, pl_tup, pl_lst, Nat.reduceAdd, Nat.reduceSub, Nat.reduceLT, if_true, Bool.true_and, Bool.and_true, Bool.not_true, Bool.not_false, Bool.false_eq_true, if_false, Nat.zero_add, truth_bl, fTuple_lst, fTuple_tup, e0, key]
  exact fin_same rfl
theorem ref_exc {w : D} {d sub x : D} {c : Nat} {k f : Str} (h : Hpp) (hx : x.isRef = false) (hc : (c = 4 ∧ k = "base" ∧ f = "place") ∨ (c = 5 ∧ k = "many" ∧ f = "limit") ∨ (c = 3 ∧ k = "order" ∧ f = "place")) (e : F_sublist_of [d, w, sub] h = .exc c [(f, x)] h) : F__law_refused [d, w, sub] h = .ok (rf k x) h := by
  have key : (sTryAs (sExpr (eFn 3 F_sublist_of (aCons (eVar 0) (aCons (eVar 1) (aCons (eVar 2) aNil))))) (([4], 4, fun a fl => (sSet 3 (eTup (aCons (eC (.str ("base" : Str))) (aCons (eXf a fl 4 "place") aNil))))) :: (([5], 4, fun a fl => (sSet 3 (eTup (aCons (eC (.str ("many" : Str))) (aCons (eXf a fl 4 "limit") aNil))))) :: (([3], 4, fun a fl => (sSet 3 (eTup (aCons (eC (.str ("order" : Str))) (aCons (eXf a fl 4 "place") aNil))))) :: [])))) [some d, some w, some sub, some (rf "none" (.int 0)), none] h = .nx [some d, some w, some sub, some (rf k x), none] h := by
    rcases hc with ⟨rfl, rfl, rfl⟩ | ⟨rfl, rfl, rfl⟩ | ⟨rfl, rfl, rfl⟩ <;>
      (simp only [sTryAs, fnM, env0, sSeq, sSet, sRet, sRetN, sIf, sExpr, sNil, onR, eVar, eC, eOp, eAnd, eOr, eNot, eNeg, eIf, bAnd, bOr, bNot, bOp, bTru, asB, eChain, eCall, eFn, eFnD, eFnK, aCons, aNil, R.bind, List.length_cons, List.length_nil, List.replicate, List.map_cons, List.map_nil, List.cons_append, List.nil_append, List.getElem?_cons_zero, List.getElem?_cons_succ, List.set_cons_zero, List.set_cons_succ, wipeE, tgN, truth, bYes, pl_int, pl_bl, pl_non, pl_str, pl_tup, pl_lst, Nat.reduceAdd, Nat.reduceSub, Nat.reduceLT, if_true, Bool.true_and, Bool.and_true, Bool.not_true, Bool.not_false, Bool.false_eq_true, if_false, Nat.zero_add, truth_bl, fTuple_lst, fTuple_tup, e]
       simp [sHandle]
       exact sAny_eq fun a => by simp [fnM, env0, sSeq, sSet, sRet, sRetN, sIf, sExpr, sNil, onR, eVar, eC, eOp, eAnd, eOr, eNot, eNeg, eIf, bAnd, bOr, bNot, bOp, bTru, asB, eChain, eCall, eFn, eFnD, eFnK, aCons, aNil, R.bind, List.length_cons, List.length_nil, List.replicate, List.map_cons, List.map_nil, List.cons_append, List.nil_append, List.getElem?_cons_zero, List.getElem?_cons_succ, List.set_cons_zero, List.set_cons_succ, wipeE, tgN, truth, bYes, pl_int, pl_bl, pl_non, pl_str, pl_tup, pl_lst, Nat.reduceAdd, Nat.reduceSub, Nat.reduceLT, if_true, Bool.true_and, Bool.and_true, Bool.not_true, Bool.not_false, Bool.false_eq_true, if_false, Nat.zero_add, truth_bl, fTuple_lst, fTuple_tup, eXf, SF.gone, eTup, noRefs, r_str, hx, nz2])
  have e0 : eTup (aCons (eC (.str ("none" : Str))) (aCons (eC (.int 0)) aNil)) [some d, some w, some sub, none, none] h = .ok (rf "none" (.int 0)) h := rfl
  simp only [F__law_refused, m__law_refused, fnM, env0, sSeq, sSet, sRet, sRetN, sIf, sExpr, sNil, onR, eVar, eC, eOp, eAnd, eOr, eNot, eNeg, eIf, bAnd, bOr, bNot, bOp, bTru, asB, eChain, eCall, eFn, eFnD, eFnK, aCons, aNil, R.bind, List.length_cons, List.length_nil, List.replicate, List.map_cons, List.map_nil, List.cons_append, List.nil_append, List.getElem?_cons_zero, List.getElem?_cons_succ, List.set_cons_zero, List.set_cons_succ, wipeE, tgN, truth, bYes, pl_int, pl_bl, pl_non, pl_str, pl_tup, pl_lst, Nat.reduceAdd, Nat.reduceSub, Nat.reduceLT, if_true, Bool.true_and, Bool.and_true, Bool.not_true, Bool.not_false, Bool.false_eq_true, if_false, Nat.zero_add, truth_bl, fTuple_lst, fTuple_tup, e0, key]
  exact fin_same rfl
def badD (w : Nat) : Nat → D
  | 0 => .int 3
  | 1 => .tup [nI w]
  | 2 => .tup [.int 0, .int 0]
  | 3 => .tup [.bl true]
  | 4 => .str "0"
  | _ => .non
theorem plain2_of {d : D} (h1 : plain d = true) (h2 : ∀ l, rowI d = some l → (∀ x ∈ l, plain x = true) ∧ l.length < 16777216) : plain2 d := ⟨h1, h2⟩
theorem bad_wrong {w : Nat} (h1 : 1 ≤ w) (t : Nat) (ht : t < 6) : Wrong w (badD w t) := by
  have hw : (0 : Int) < (w : Int) := by omega
  rcases (show t = 0 ∨ t = 1 ∨ t = 2 ∨ t = 3 ∨ t = 4 ∨ t = 5 by omega) with z | z | z | z | z | z <;> subst z
  · exact .inr ⟨rfl, rfl⟩
  · exact .inl ⟨[nI w], 0, rfl, by simp [strange, okW, nI], plain2_rowN (ns := [w]) (.inl rfl) (by simp)⟩
  · exact .inl ⟨[.int 0, .int 0], 1, rfl, by simp [strange, okW, natOf]; omega, plain2_rowN (ns := [0, 0]) (.inl rfl) (by simp)⟩
  · exact .inl ⟨[.bl true], 0, rfl, by simp [strange, okW], rfl, fun l hl => by
      cases hl
      exact ⟨fun x hx => by
        have : x = .bl true := by simpa using hx
        subst this; rfl, by simp⟩⟩
  · exact .inr ⟨rfl, rfl⟩
  · exact .inr ⟨rfl, rfl⟩
theorem bad_ref (w t : Nat) : (badD w t).isRef = false := by unfold badD; split <;> rfl
end Law
end
end
section
set_option Elab.async false
set_option linter.all false
set_option maxRecDepth 100000
set_option maxHeartbeats 1600000
noncomputable section
namespace Law
open Nb
open PySem (Str PyData)
open PyProof
theorem cutL_to {α : Type} (l : List α) (k : Nat) : cutL l none (some (k : Int)) = l.take k := by
  unfold cutL
  rw [HT.sIx_none, HT.sIx_nat, List.drop_zero, Nat.sub_zero]
  rcases Nat.le_total k l.length with h | h
  · rw [Nat.min_eq_left h]
  · rw [Nat.min_eq_right h, List.take_length, List.take_of_length_le h]
theorem cutL_from {α : Type} (l : List α) (k : Nat) : cutL l (some (k : Int)) none = l.drop k := by
  unfold cutL
  rw [HT.sIx_none, HT.sIx_nat]
  rcases Nat.le_total k l.length with h | h
  · rw [Nat.min_eq_left h]; exact List.take_of_length_le (by simp)
  · rw [Nat.min_eq_right h, Nat.sub_self, List.take_zero, List.drop_eq_nil_of_le h]
theorem fSl_to (l : List (List Nat)) (k : Nat) (h : Hpp) : fSl false (lT l) none (some (k : Int)) h = .ok (lT (l.take k)) h := by
  simp [fSl, lT, asL, mkL, cutL_to, List.map_take]
theorem fSl_from (l : List (List Nat)) (k : Nat) (h : Hpp) : fSl false (lT l) (some (k : Int)) none h = .ok (lT (l.drop k)) h := by
  simp [fSl, lT, asL, mkL, cutL_from, List.map_drop]
theorem fSl_toN (l : List Nat) (k : Nat) (h : Hpp) : fSl false (tN l) none (some (k : Int)) h = .ok (tN (l.take k)) h := by
  simp [fSl, tN, cutL_to, List.map_take]
theorem oAdd_lst (a b : List D) (h : Hpp) (hz : a.length + b.length ≤ 100000) : oAdd (.lst a) (.lst b) h = .ok (.lst (a ++ b)) h := by
  show (if a.length + b.length ≤ LINE then (Nb.R.ok (D.lst (a ++ b)) h : Nb.R D) else .no) = _
  rw [if_pos (by show _ ≤ 16777216; omega)]
theorem oAdd_tup (a b : List D) (h : Hpp) (hz : a.length + b.length ≤ 100000) : oAdd (.tup a) (.tup b) h = .ok (.tup (a ++ b)) h := by
  show (if a.length + b.length ≤ LINE then (Nb.R.ok (D.tup (a ++ b)) h : Nb.R D) else .no) = _
  rw [if_pos (by show _ ≤ 16777216; omega)]
abbrev Case := D × D × Str × Int
def csD (c : Case) : D := .tup [c.1, c.2.1, .str c.2.2.1, .int c.2.2.2]
abbrev caseB : SM := (sIf (bOp oNe (eFn 3 F__law_refused (aCons (eOp oIx (eVar 9) (eC (.int 0))) (aCons (eVar 2) (aCons (eOp oIx (eVar 9) (eC (.int 1))) aNil)))) (eTup (aCons (eOp oIx (eVar 9) (eC (.int 2))) (aCons (eOp oIx (eVar 9) (eC (.int 3))) aNil)))) (sRet (eC (.bl false))) sNil)
theorem rf_same (k : Str) (i : Int) (h : Hpp) (hk : PyData.strOk k = true) : oNe (rf k (.int i)) (rf k (.int i)) h = .ok (.bl false) h :=
  oNe_me h rfl (by simp [rf, isPy, isPyL, hk]) (by simp [rf, toPy, toPyL, PyData.canLay0, PyData.canLayAll0, hk]) (by simp [rf, toPy, toPyL, PyData.depth, PyData.depthAll])
theorem rf_eq (k : Str) (i : Int) (h : Hpp) (hk : PyData.strOk k = true) : oEq (rf k (.int i)) (rf k (.int i)) h = .ok (.bl true) h :=
  oEq_me h rfl (by simp [rf, isPy, isPyL, hk]) (by simp [rf, toPy, toPyL, PyData.canLay0, PyData.canLayAll0, hk]) (by simp [rf, toPy, toPyL, PyData.depth, PyData.depthAll])
theorem case_go {w : Nat} (e0 e1 e3 e4 e5 e6 e7 e8 : Option D) (h : Hpp) : ∀ (cs : List Case) (x9 : Option D), (∀ c ∈ cs, F__law_refused [c.1, nI w, c.2.1] h = .ok (rf c.2.2.1 (.int c.2.2.2)) h ∧ PyData.strOk c.2.2.1 = true) →
    ∃ y9, forGo [] (tgN 9) caseB (cs.map csD) [e0, e1, some (nI w), e3, e4, e5, e6, e7, e8, x9, none, none] h = .nx [e0, e1, some (nI w), e3, e4, e5, e6, e7, e8, y9, none, none] h
  | [], x9, _ => ⟨x9, by rw [List.map_nil, forGo, if_pos (srcOk_nil _)]⟩
  | c :: cs, x9, hc => by
    obtain ⟨y9, ih⟩ := case_go e0 e1 e3 e4 e5 e6 e7 e8 h cs (some (csD c)) fun d hd => hc d (List.mem_cons_of_mem _ hd)
    obtain ⟨q1, q2⟩ := hc c List.mem_cons_self
    refine ⟨y9, ?_⟩
    have tg : tgN 9 (csD c) [e0, e1, some (nI w), e3, e4, e5, e6, e7, e8, x9, none, none] = some [e0, e1, some (nI w), e3, e4, e5, e6, e7, e8, some (csD c), none, none] := rfl
    have i0 : oIx (csD c) (.int 0) h = .ok c.1 h := rfl
    have i1 : oIx (csD c) (.int 1) h = .ok c.2.1 h := rfl
    have tu : eTup (aCons (eOp oIx (eVar 9) (eC (.int 2))) (aCons (eOp oIx (eVar 9) (eC (.int 3))) aNil)) [e0, e1, some (nI w), e3, e4, e5, e6, e7, e8, some (csD c), none, none] h = .ok (rf c.2.2.1 (.int c.2.2.2)) h := rfl
    have ne := rf_same c.2.2.1 c.2.2.2 h q2
    have st : caseB [e0, e1, some (nI w), e3, e4, e5, e6, e7, e8, some (csD c), none, none] h = .nx [e0, e1, some (nI w), e3, e4, e5, e6, e7, e8, some (csD c), none, none] h := by
      simp only [caseB, fnM, env0, sSeq, sSet, sRet, sRetN, sIf, sExpr, sNil, onR, eVar, eC, eOp, eAnd, eOr, eNot, eNeg, eIf, bAnd, bOr, bNot, bOp, bTru, asB, eChain, eCall, eFn, eFnD, eFnK, aCons, aNil, R.bind, List.length_cons, List.length_nil, List.replicate, List.map_cons, List.map_nil, List.cons_append, List.nil_append, List.getElem?_cons_zero, List.getElem?_cons_succ, List.set_cons_zero, List.set_cons_succ, wipeE, tgN, truth, bYes, pl_int, pl_bl, pl_non, pl_str, pl_tup, pl_lst, Nat.reduceAdd, Nat.reduceSub, Nat.reduceLT, if_true, Bool.true_and, Bool.and_true, Bool.not_true, Bool.not_false, Bool.false_eq_true, if_false, Nat.zero_add, truth_bl, fTuple_lst, fTuple_tup, i0, i1, q1, tu, ne]
    rw [List.map_cons, forGo, if_pos (srcOk_nil _), tg]
    simp only [st, ih]
section
variable {w : Nat} (h1 : 1 ≤ w) (h2 : w ≤ 12) {lots : List (List Nat)} (hc : ∀ S ∈ lots, canon w S) (h : Hpp)
include h1 h2
theorem rb_none {d s : D} (hd : rowI d = none) (hp : plain d = true) : F__law_refused [d, nI w, s] h = .ok (rf "base" (.int (-1))) h :=
  ref_exc h rfl (.inl ⟨rfl, rfl, rfl⟩) (s_sub_base h (s_base_none h1 h2 d h hd hp))
include hc
theorem good_row {S : List Nat} (hS : canon w S) : Good w (tN S, S) := ⟨rfl, nodup_of_lt hS.1, hS.2, plain2_rowN (.inl rfl) (by have := canon_length hS; omega)⟩
theorem rb_wrong {s b : D} (rest : List D) (hb : Wrong w b) (hz : lots.length < 100) : F__law_refused [.lst (lots.map tN ++ b :: rest), nI w, s] h = .ok (rf "base" (nI lots.length)) h := by
  have := s_base_wrong h1 h2 (.lst (lots.map tN ++ b :: rest)) h (lots.map fun S => (tN S, S)) b rest (by rw [List.map_map]; rfl) rfl (fun p hp => by
    obtain ⟨S, hS, rfl⟩ := List.mem_map.mp hp
    exact good_row h1 h2 hc (hc S hS)) hb (by simpa using hz)
  rw [List.length_map] at this
  exact ref_exc h rfl (.inl ⟨rfl, rfl, rfl⟩) (s_sub_base h this)
theorem rb_many {s : D} (hz : 8 < lots.length) (hz2 : lots.length < 100) : F__law_refused [lT lots, nI w, s] h = .ok (rf "many" (.int 8)) h := by
  have := s_base_many h1 h2 (lT lots) h (lots.map fun S => (tN S, S)) (by rw [List.map_map]; rfl) rfl (fun p hp => by
    obtain ⟨S, hS, rfl⟩ := List.mem_map.mp hp
    exact good_row h1 h2 hc (hc S hS)) (by simpa using hz) (by simpa using hz2)
  exact ref_exc h rfl (.inr (.inl ⟨rfl, rfl, rfl⟩)) (s_sub_base h this)
theorem rb_order (hz : lots.length ≤ 8) {s : D} (hd : rowI s = none) (hp : plain s = true) : F__law_refused [lT lots, nI w, s] h = .ok (rf "order" (.int (-1))) h :=
  ref_exc h rfl (.inr (.inr ⟨rfl, rfl, rfl⟩)) (s_sub_exc h1 h2 (GB_lT (by omega) hc hz) h (s_places_none lots.length s h hp hd))
theorem rb_place (hz : lots.length ≤ 8) {S : List Nat} (hS : canon lots.length S) {x : D} (hx : plain x = true) (hw : okW x lots.length = true → natOf x ∈ S) : F__law_refused [lT lots, nI w, .tup (S.map nI ++ [x])] h = .ok (rf "order" (nI S.length)) h := by
  have hl := canon_length hS
  have hs : strange lots.length [] 0 (S.map nI ++ [x]) = some S.length := by
    have := strange_app lots.length S [] 0 [x] (by simpa using nodup_of_lt hS.1) hS.2
    rw [this, List.nil_append, Nat.zero_add, strange]
    by_cases q : okW x lots.length = true
    · rw [if_pos q, if_pos (hw q)]
    · rw [if_neg q]
  have hp : plain2 (.tup (S.map nI ++ [x])) := ⟨rfl, fun l hl' => by
    cases hl'
    refine ⟨fun y hy => ?_, by simp; omega⟩
    rcases List.mem_append.mp hy with z | z
    · obtain ⟨k, _, rfl⟩ := List.mem_map.mp z
      rfl
    · have : y = x := by simpa using z
      rw [this]; exact hx⟩
  exact ref_exc h rfl (.inr (.inr ⟨rfl, rfl, rfl⟩)) (s_sub_exc h1 h2 (GB_lT (by omega) hc hz) h (s_places_bad lots.length _ h hp _ S.length rfl hs))
theorem rb_ok (hz : lots.length ≤ 8) : F__law_refused [lT lots, nI w, .tup []] h = .ok (rf "none" (.int 0)) h :=
  ref_ok h (s_sub_ok h1 h2 (GB_lT (by omega) hc hz) (GR_tN (canon_nil _) (by omega)) h)
end
theorem badD_ix (w t : Nat) (ht : t < 6) (h : Hpp) : oIx (.lst [.int 3, .tup [nI w], .tup [.int 0, .int 0], .tup [.bl true], .str ("0" : Str), .non]) (nI t) h = .ok (badD w t) h := by
  rcases (show t = 0 ∨ t = 1 ∨ t = 2 ∨ t = 3 ∨ t = 4 ∨ t = 5 by omega) with z | z | z | z | z | z <;> subst z <;> rfl
theorem sl_to {env : Nb.Env} {l : List (List Nat)} {i j k : Nat} {h : Hpp} (he : env[i]? = some (some (lT l))) (hj : env[j]? = some (some (nI k))) : eSl false (eVar i) pNo (pSo (eVar j)) env h = .ok (lT (l.take k)) h := by
  simp only [eSl, eVar, he, R.bind, pNo, pSo, hj]; exact fSl_to l k h
theorem sl_from {env : Nb.Env} {l : List (List Nat)} {i j k : Nat} {h : Hpp} (he : env[i]? = some (some (lT l))) (hj : env[j]? = some (some (nI k))) : eSl false (eVar i) (pSo (eVar j)) pNo env h = .ok (lT (l.drop k)) h := by
  simp only [eSl, eVar, he, R.bind, pNo, pSo, hj]; exact fSl_from l k h
theorem sl_from1 {env : Nb.Env} {l : List (List Nat)} {i : Nat} {h : Hpp} (he : env[i]? = some (some (lT l))) : eSl false (eVar i) (pSo (eC (.int 1))) pNo env h = .ok (lT (l.drop 1)) h := by
  simp only [eSl, eVar, he, R.bind, pNo, pSo, eC]; exact fSl_from l 1 h
theorem sl_toN1 {env : Nb.Env} {l : List Nat} {i : Nat} {h : Hpp} (he : env[i]? = some (some (tN l))) : eSl false (eVar i) pNo (pSo (eC (.int 1))) env h = .ok (tN (l.take 1)) h := by
  simp only [eSl, eVar, he, R.bind, pNo, pSo, eC]; exact fSl_toN l 1 h
theorem canon_0 {w : Nat} (h1 : 1 ≤ w) : canon w [0] := ⟨by simp, fun x hx => by
  have : x = 0 := by simpa using hx
  omega⟩
theorem so4 : PyData.strOk ("base" : Str) = true := by decide +kernel
theorem so5 : PyData.strOk ("none" : Str) = true := by decide +kernel
theorem nl0 : ((0 : Nat) ≤ LINE) = True := eq_true (by decide)
theorem nl1 : ((1 : Nat) ≤ LINE) = True := eq_true (by decide)
theorem nl2 : ((2 : Nat) ≤ LINE) = True := eq_true (by decide)
theorem nl3 : ((3 : Nat) ≤ LINE) = True := eq_true (by decide)
theorem nl4 : ((4 : Nat) ≤ LINE) = True := eq_true (by decide)
theorem nl6 : ((6 : Nat) ≤ LINE) = True := eq_true (by decide)
theorem nr_cons (d : D) (l : List D) : noRefs (d :: l) = (!d.isRef && noRefs l) := rfl
theorem nr_nil : noRefs [] = true := rfl
theorem l_bases_so {w : Nat} (h1 : 1 ≤ w) (h2 : w ≤ 12) {lots : List (List Nat)} (hc : ∀ S ∈ lots, canon w S) (hz : lots.length ≤ 5) (ds : List Int) (hs : Hpp) : ∃ ds', F__law_bases_so [.ref 0, lT lots, nI w] (iD ds :: hs) = .ok (.bl true) (iD ds' :: hs) := by
  have hz8 : lots.length ≤ 8 := by omega
  obtain ⟨S, ds1, hS, m4⟩ := l_lot ds (n := lots.length) (by omega) hs
  obtain ⟨a, ds2, ha, m7⟩ := l_take ds1 (n := lots.length + 1) (by omega)
  obtain ⟨t, ds3, ht, m8⟩ := l_take ds2 (n := 6) (by omega)
  replace m7 := m7 hs
  have m8' : F__law_take [.ref 0, .int 6] (iD ds2 :: hs) = .ok (nI t) (iD ds3 :: hs) := m8 hs
  refine ⟨ds3, ?_⟩
  have mA : oAdd (nI lots.length) (.int 1) (iD ds1 :: hs) = .ok (nI (lots.length + 1)) (iD ds1 :: hs) := oAdd_nat _ 1 _
  have hSl := canon_length hS
  have m1 := fLen_lT lots (iD ds :: hs)
  have k1 : (eLc false (iAny (eVar 1)) (tgN 11) bYes (eRev false (eCall (fList false) (aCons (eVar 11) aNil))) [11]) [some (.ref 0), some (lT lots), some (nI w), some (nI lots.length), none, none, none, none, none, none, none, none] (iD ds :: hs) = .ok (lL (lots.map List.reverse)) (iD ds :: hs) := by
    have := lc_map (t := tgN 11) (te := (eRev false (eCall (fList false) (aCons (eVar 11) aNil)))) (vs := [11]) tN lots (fun S => lN S.reverse) (iAny_lT (i := 1) (env := [some (.ref 0), some (lT lots), some (nI w), some (nI lots.length), none, none, none, none, none, none, none, none]) (h := iD ds :: hs) rfl) (fun S _ c => ⟨[some (.ref 0), some (lT lots), some (nI w), some (nI lots.length), none, none, none, none, none, none, none, some (tN S)], rfl, by
      simp only [fnM, env0, sSeq, sSet, sRet, sRetN, sIf, sExpr, sNil, onR, eVar, eC, eOp, eAnd, eOr, eNot, eNeg, eIf, bAnd, bOr, bNot, bOp, bTru, asB, eChain, eCall, eFn, eFnD, eFnK, aCons, aNil, R.bind, List.length_cons, List.length_nil, List.replicate, List.map_cons, List.map_nil, List.cons_append, List.nil_append, List.getElem?_cons_zero, List.getElem?_cons_succ, List.set_cons_zero, List.set_cons_succ, wipeE, tgN, truth, bYes, pl_int, pl_bl, pl_non, pl_str, pl_tup, pl_lst, Nat.reduceAdd, Nat.reduceSub, Nat.reduceLT, if_true, Bool.true_and, Bool.and_true, Bool.not_true, Bool.not_false, Bool.false_eq_true, if_false, Nat.zero_add, truth_bl, fTuple_lst, fTuple_tup, eRev, fList_tN, fRev_lN]⟩) fun _ => rfl
    rw [this, lL, List.map_map]; rfl
  have m2 := s_base_of h1 h2 (GB_rev (by omega) hc hz8) (iD ds :: hs)
  have a2 := l_are hc (iD ds :: hs)
  have m6 := s_sub_ok h1 h2 (GB_lT (by omega) hc hz8) (GR_rev hS (by omega)) (iD ds1 :: hs)
  have a6 := l_are1 hS (iD ds1 :: hs)
  have hLe : (iD ds3 :: hs).length = hs.length + 1 := rfl
  generalize (iD ds3 :: hs) = H at *
  have bx := badD_ix w t ht H
  have bW := bad_wrong h1 t ht
  have bR := bad_ref w t
  generalize badD w t = b at *
  -- the full base
  have hf : (lots ++ List.replicate (9 - lots.length) [0]).length = 9 := by simp; omega
  have cf : ∀ T ∈ lots ++ List.replicate (9 - lots.length) [0], canon w T := fun T hT => by
    rcases List.mem_append.mp hT with z | z
    · exact hc T z
    · rw [(List.mem_replicate.mp z).2]; exact canon_0 h1
  have k2 : ∀ (e4 e5 e6 e7 : Option D), (eLc false (iRg1 (aCons (eOp oSub (eC (.int 9)) (eVar 3)) aNil)) (tgN 10) bYes (eTup (aCons (eC (.int 0)) aNil)) [10]) [some (.ref 0), some (lT lots), some (nI w), some (nI lots.length), e4, e5, e6, e7, none, none, none, none] H = .ok (lT (List.replicate (9 - lots.length) [0])) H := fun e4 e5 e6 e7 => by
    have e0 : oSub (.int 9) (nI lots.length) H = .ok (nI (9 - lots.length)) H := oSub_nat (a := 9) H (by omega)
    have := lc_map (t := tgN 10) (te := (eTup (aCons (eC (.int 0)) aNil))) (vs := [10]) nI (List.range (9 - lots.length)) (fun _ => tN [0]) (iRg1_e (m := (aCons (eOp oSub (eC (.int 9)) (eVar 3)) aNil)) (env := [some (.ref 0), some (lT lots), some (nI w), some (nI lots.length), e4, e5, e6, e7, none, none, none, none]) (h := H) (by omega) (by simp only [fnM, env0, sSeq, sSet, sRet, sRetN, sIf, sExpr, sNil, onR, eVar, eC, eOp, eAnd, eOr, eNot, eNeg, eIf, bAnd, bOr, bNot, bOp, bTru, asB, eChain, eCall, eFn, eFnD, eFnK, aCons, aNil, R.bind, List.length_cons, List.length_nil, List.replicate, List.map_cons, List.map_nil, List.cons_append, List.nil_append, List.getElem?_cons_zero, List.getElem?_cons_succ, List.set_cons_zero, List.set_cons_succ, wipeE, tgN, truth, bYes, pl_int, pl_bl, pl_non, pl_str, pl_tup, pl_lst, Nat.reduceAdd, Nat.reduceSub, Nat.reduceLT, if_true, Bool.true_and, Bool.and_true, Bool.not_true, Bool.not_false, Bool.false_eq_true, if_false, Nat.zero_add, truth_bl, fTuple_lst, fTuple_tup, e0])) (fun x _ c => ⟨[some (.ref 0), some (lT lots), some (nI w), some (nI lots.length), e4, e5, e6, e7, none, none, some (nI x), none], rfl, rfl⟩) fun _ => rfl
    rw [this, lT]
    congr 2
    rw [List.map_replicate, List.map_const', List.length_range]
  have q2 := oAdd_lT lots (List.replicate (9 - lots.length) [0]) H (by simp; omega)
  have d1 : (lots.take a).length = a := by rw [List.length_take]; omega
  have r3 : F__law_refused [.lst ((lots.take a).map tN ++ b :: (lots.drop a).map tN), nI w, .non] H = .ok (rf "base" (nI (lots.take a).length)) H := rb_wrong h1 h2 (fun T hT => hc T (List.mem_of_mem_take hT)) H _ bW (by omega)
  rw [d1] at r3
  have r1 : F__law_refused [.non, nI w, tN S] H = _ := rb_none h1 h2 H rfl rfl
  have r2 : F__law_refused [.str ("ab" : Str), nI w, .non] H = _ := rb_none h1 h2 H rfl rfl
  have r4 := rb_many h1 h2 cf H (s := .non) (by omega) (by omega)
  have r5 : F__law_refused [.lst ((lots ++ List.replicate (9 - lots.length) [0]).map tN ++ b :: []), nI w, .non] H = _ := rb_wrong h1 h2 cf H [] bW (by omega)
  rw [hf] at r5
  have r6 := rb_order h1 h2 hc H hz8 (s := .non) rfl rfl
  have r7 := rb_place h1 h2 hc H hz8 hS (x := nI lots.length) rfl (fun z => by simp [okW, nI] at z)
  have r8 := rb_place h1 h2 hc H hz8 hS (x := .bl true) rfl (fun z => by simp [okW] at z)
  have r9 := rb_ok h1 h2 (lots := (lots ++ List.replicate (9 - lots.length) [0]).drop 1) (fun T hT => cf T (List.mem_of_mem_drop hT)) H (by rw [List.length_drop]; omega)
  have rA : S ≠ [] → F__law_refused [lT lots, nI w, tN (S ++ S.take 1)] H = .ok (rf "order" (nI S.length)) H := fun hne => by
    cases S with
    | nil => exact absurd rfl hne
    | cons x S' =>
      have := rb_place h1 h2 hc H hz8 hS (x := nI x) rfl (fun z => by simp [natOf])
      have e : tN ((x :: S') ++ List.take 1 (x :: S')) = .tup ((x :: S').map nI ++ [nI x]) := by simp [tN]
      rw [e]; exact this
  -- the rows
  have w1 := sl_to (env := [some (.ref 0), some (lT lots), some (nI w), some (nI lots.length), some (tN S), some (nI a), some b, none, none, none, none, none]) (l := lots) (i := 1) (j := 5) (k := a) (h := H) rfl rfl
  have w2 := sl_from (env := [some (.ref 0), some (lT lots), some (nI w), some (nI lots.length), some (tN S), some (nI a), some b, none, none, none, none, none]) (l := lots) (i := 1) (j := 5) (k := a) (h := H) rfl rfl
  have w3 : oAdd (lT (lots.take a)) (.lst [b]) H = .ok (.lst ((lots.take a).map tN ++ [b])) H := oAdd_lst _ _ H (by simp; omega)
  have w4 : oAdd (.lst ((lots.take a).map tN ++ [b])) (lT (lots.drop a)) H = .ok (.lst ((lots.take a).map tN ++ b :: (lots.drop a).map tN)) H := by
    have := oAdd_lst ((lots.take a).map tN ++ [b]) ((lots.drop a).map tN) H (by simp; omega)
    rw [List.append_assoc] at this; exact this
  have w5 : oAdd (lT (lots ++ List.replicate (9 - lots.length) [0])) (.lst [b]) H = .ok (.lst ((lots ++ List.replicate (9 - lots.length) [0]).map tN ++ b :: [])) H := oAdd_lst _ _ H (by simp; omega)
  have w6 : oAdd (tN S) (.tup [nI lots.length]) H = .ok (.tup (S.map nI ++ [nI lots.length])) H := oAdd_tup _ _ H (by simp; omega)
  have w7 : oAdd (tN S) (.tup [.bl true]) H = .ok (.tup (S.map nI ++ [.bl true])) H := oAdd_tup _ _ H (by simp; omega)
  have w8 := fLen_tN S H
  have w9 := oAdd_tN S (S.take 1) H (by have := List.length_take_le 1 S; omega)
  generalize hfu : lots ++ List.replicate (9 - lots.length) [0] = fu at *
  obtain ⟨y9, lp⟩ := case_go (w := w) (some (.ref 0)) (some (lT lots)) (some (nI lots.length)) (some (tN S)) (some (nI a)) (some b) (some (.lst [csD (.non, tN S, "base", -1), csD (.str "ab", .non, "base", -1), csD (.lst ((lots.take a).map tN ++ b :: (lots.drop a).map tN), .non, "base", (a : Int)), csD (lT fu, .non, "many", 8), csD (.lst (fu.map tN ++ b :: []), .non, "base", 9), csD (lT lots, .non, "order", -1), csD (lT lots, .tup (S.map nI ++ [nI lots.length]), "order", (S.length : Int)), csD (lT lots, .tup (S.map nI ++ [.bl true]), "order", (S.length : Int))])) (some (lT fu)) H
    [(.non, tN S, "base", -1), (.str "ab", .non, "base", -1), (.lst ((lots.take a).map tN ++ b :: (lots.drop a).map tN), .non, "base", (a : Int)), (lT fu, .non, "many", 8), (.lst (fu.map tN ++ b :: []), .non, "base", 9), (lT lots, .non, "order", -1), (lT lots, .tup (S.map nI ++ [nI lots.length]), "order", (S.length : Int)), (lT lots, .tup (S.map nI ++ [.bl true]), "order", (S.length : Int))] none (by
      intro c hcc
      simp only [List.mem_cons, List.not_mem_nil, or_false] at hcc
      rcases hcc with z | z | z | z | z | z | z | z <;> subst z
      · exact ⟨r1, so4⟩
      · exact ⟨r2, so4⟩
      · exact ⟨r3, so4⟩
      · exact ⟨r4, so2⟩
      · exact ⟨r5, so4⟩
      · exact ⟨r6, so3⟩
      · exact ⟨r7, so3⟩
      · exact ⟨r8, so3⟩)
  simp only [List.map_cons, List.map_nil, csD, caseB] at lp
  have g1 : ∀ e, eSl false (eVar 8) (pSo (eC (.int 1))) pNo [some (.ref 0), some (lT lots), some (nI w), some (nI lots.length), some (tN S), some (nI a), some b, e, some (lT fu), y9, none, none] H = .ok (lT (fu.drop 1)) H := fun e => sl_from1 rfl
  have g2 : ∀ e, eSl false (eVar 4) pNo (pSo (eC (.int 1))) [some (.ref 0), some (lT lots), some (nI w), some (nI lots.length), some (tN S), some (nI a), some b, e, some (lT fu), y9, none, none] H = .ok (tN (S.take 1)) H := fun e => sl_toN1 rfl
  have it : ∀ (l : List D) (h : Hpp) , iAny (eVar 7) [some (.ref 0), some (lT lots), some (nI w), some (nI lots.length), some (tN S), some (nI a), some b, some (.lst l), some (lT fu), none, none, none] h = .ok ⟨l, []⟩ h := fun l h => iAny_at rfl (.inr rfl)
  have f1 := rf_same "none" 0 H so5
  have f2 := rf_eq "order" (S.length : Int) H so3
  have rl : ∀ l, (lT l).isRef = false := fun _ => rfl
  have rt : ∀ l, (tN l).isRef = false := fun _ => rfl
  have e0 : oEq (nI S.length) (.int 0) H = .ok (.bl S.isEmpty) H := by rw [oEq_int, len_zero]
  have x1 : ∀ (a b c d e f : D) (h : Hpp), oAdd (.lst [a, b, c]) (.lst [d, e, f]) h = .ok (.lst [a, b, c, d, e, f]) h := fun a b c d e f h => rfl
  have x2 : ∀ (a b c d e f g : D) (h : Hpp), oAdd (.lst [a, b, c, d, e, f]) (.lst [g]) h = .ok (.lst [a, b, c, d, e, f, g]) h := fun a b c d e f g h => rfl
  have x3 : ∀ (a b c d e f g i : D) (h : Hpp), oAdd (.lst [a, b, c, d, e, f, g]) (.lst [i]) h = .ok (.lst [a, b, c, d, e, f, g, i]) h := fun a b c d e f g i h => rfl
  have r_non : D.isRef .non = false := rfl
  have r_lst : ∀ l, (D.lst l).isRef = false := fun _ => rfl
  have r_bl : ∀ l, (D.bl l).isRef = false := fun _ => rfl
  simp only [F__law_bases_so, m__law_bases_so, fnM, env0, sSeq, sSet, sRet, sRetN, sIf, sExpr, sNil, onR, eVar, eC, eOp, eAnd, eOr, eNot, eNeg, eIf, bAnd, bOr, bNot, bOp, bTru, asB, eChain, eCall, eFn, eFnD, eFnK, aCons, aNil, R.bind, List.length_cons, List.length_nil, List.replicate, List.map_cons, List.map_nil, List.cons_append, List.nil_append, List.getElem?_cons_zero, List.getElem?_cons_succ, List.set_cons_zero, List.set_cons_succ, wipeE, tgN, truth, bYes, pl_int, pl_bl, pl_non, pl_str, pl_tup, pl_lst, Nat.reduceAdd, Nat.reduceSub, Nat.reduceLT, if_true, Bool.true_and, Bool.and_true, Bool.not_true, Bool.not_false, Bool.false_eq_true, if_false, Nat.zero_add, truth_bl, fTuple_lst, fTuple_tup, eTup, eLst, mkL, nr_cons, nr_nil, r_tup, r_str, r_int, r_non, r_lst, r_bl, rl, rt, bR, nl0, nl1, nl2, nl3, nl4, nl6, decide_true, m1, k1, m2, a2, m4, eRev, fList_tN, fRev_lN, m6, a6, mA, m7, m8', bx, w1, w2, w3, w4, k2, q2, w5, w6, w7, w8, x1, x2, x3, sFor, it, lp, g1, r9, f1, e0]
  cases S with
  | nil =>
    simp only [List.isEmpty_nil, fnM, env0, sSeq, sSet, sRet, sRetN, sIf, sExpr, sNil, onR, eVar, eC, eOp, eAnd, eOr, eNot, eNeg, eIf, bAnd, bOr, bNot, bOp, bTru, asB, eChain, eCall, eFn, eFnD, eFnK, aCons, aNil, R.bind, List.length_cons, List.length_nil, List.replicate, List.map_cons, List.map_nil, List.cons_append, List.nil_append, List.getElem?_cons_zero, List.getElem?_cons_succ, List.set_cons_zero, List.set_cons_succ, wipeE, tgN, truth, bYes, pl_int, pl_bl, pl_non, pl_str, pl_tup, pl_lst, Nat.reduceAdd, Nat.reduceSub, Nat.reduceLT, if_true, Bool.true_and, Bool.and_true, Bool.not_true, Bool.not_false, Bool.false_eq_true, if_false, Nat.zero_add, truth_bl, fTuple_lst, fTuple_tup]
    rw [finR_nr (d := .bl true) rfl, ← hLe, List.take_length]
  | cons x S' =>
    have rB := rA (by simp)
    simp only [List.cons_append] at rB
    have f3 : oEq (rf "order" (nI (S'.length + 1))) (.tup [.str ("order" : Str), nI (S'.length + 1)]) H = .ok (.bl true) H := rf_eq "order" ((S'.length + 1 : Nat) : Int) H so3
    simp only [List.isEmpty_cons, fnM, env0, sSeq, sSet, sRet, sRetN, sIf, sExpr, sNil, onR, eVar, eC, eOp, eAnd, eOr, eNot, eNeg, eIf, bAnd, bOr, bNot, bOp, bTru, asB, eChain, eCall, eFn, eFnD, eFnK, aCons, aNil, R.bind, List.length_cons, List.length_nil, List.replicate, List.map_cons, List.map_nil, List.cons_append, List.nil_append, List.getElem?_cons_zero, List.getElem?_cons_succ, List.set_cons_zero, List.set_cons_succ, wipeE, tgN, truth, bYes, pl_int, pl_bl, pl_non, pl_str, pl_tup, pl_lst, Nat.reduceAdd, Nat.reduceSub, Nat.reduceLT, if_true, Bool.true_and, Bool.and_true, Bool.not_true, Bool.not_false, Bool.false_eq_true, if_false, Nat.zero_add, truth_bl, fTuple_lst, fTuple_tup, g2, w9, rB, w8, nr_cons, nr_nil, r_str, r_int, nl2, decide_true, f3]
    rw [finR_nr (d := .bl true) rfl, ← hLe, List.take_length]
end Law
end
end
section
set_option Elab.async false
set_option linter.all false
set_option maxRecDepth 100000
set_option maxHeartbeats 1600000
noncomputable section
namespace Law
open Nb
open PySem (Str PyData)
abbrev lawB : SM := (sSeq (sSet 8 (eFn 3 F_says (aCons (eCall fTuple (aCons (eVar 3) aNil)) (aCons (eVar 2) (aCons (eRev false (eCall (fList false) (aCons (eVar 6) aNil))) aNil)))))
  (sIf (bOr (bNot (bTru (eFn 2 F__law_lot_kind (aCons (eVar 8) (aCons (eVar 2) aNil))))) (bOp oNe (eVar 8) (eFn 3 F__law_says (aCons (eVar 3) (aCons (eVar 2) (aCons (eVar 6) aNil)))))) (sRet (eC (.bl false))) sNil))
theorem law_loop {w : Nat} (h1 : 1 ≤ w) (h2 : w ≤ 12) {lots : List (List Nat)} (hc : ∀ S ∈ lots, canon w S) (hz : lots.length ≤ 8) (e0 e1 e4 e5 e7 : Option D) (h : Hpp) : ∃ e2 h2, forGo [] (tgN 6) lawB ((subs lots.length).map tN) [e0, e1, some (nI w), some (lT lots), e4, e5, none, e7, none] h = .nx e2 h2 ∧ (h2 = h ∧ ∃ x6 x8, e2 = [e0, e1, some (nI w), some (lT lots), e4, e5, x6, e7, x8]) := by
  obtain ⟨e2, h2, q, ⟨i1, i2⟩, _⟩ := forGo_st (t := tgN 6) (body := lawB) tN (fun xs (_ : Unit) env hh => (hh = h ∧ ∃ x6 x8, env = [e0, e1, some (nI w), some (lT lots), e4, e5, x6, e7, x8]) ∧ ∀ x ∈ xs, canon lots.length x) (fun s _ => s) (fun S xs s env hh ⟨⟨i1, x6, x8, i2⟩, i3⟩ => by
    subst i1; subst i2
    have hS := i3 S List.mem_cons_self
    refine ⟨[e0, e1, some (nI w), some (lT lots), e4, e5, some (tN S), e7, x8], [e0, e1, some (nI w), some (lT lots), e4, e5, some (tN S), e7, some (tN (saysL w lots S))], _, rfl, ?_, ⟨rfl, _, _, rfl⟩, fun x hx => i3 x (List.mem_cons_of_mem _ hx)⟩
    have m1 := s_says h1 h2 (GB_tTs (by omega) hc hz) (GR_rev hS (by omega)) hh
    have m2 := l_kind (n := w) (S := saysL w lots S) (by unfold saysL; exact canon_rng w _) hh
    have m3 := l_says h2 hS hh
    simp only [lawB, fnM, env0, sSeq, sSet, sRet, sRetN, sIf, sExpr, sNil, onR, eVar, eC, eOp, eAnd, eOr, eNot, eNeg, eIf, bAnd, bOr, bNot, bOp, bTru, asB, eChain, eCall, eFn, eFnD, eFnK, aCons, aNil, R.bind, List.length_cons, List.length_nil, List.replicate, List.map_cons, List.map_nil, List.cons_append, List.nil_append, List.getElem?_cons_zero, List.getElem?_cons_succ, List.set_cons_zero, List.set_cons_succ, wipeE, tgN, truth, bYes, pl_int, pl_bl, pl_non, pl_str, pl_tup, pl_lst, Nat.reduceAdd, Nat.reduceSub, Nat.reduceLT, if_true, Bool.true_and, Bool.and_true, Bool.not_true, Bool.not_false, Bool.false_eq_true, if_false, Nat.zero_add, truth_bl, fTuple_lst, fTuple_tup, eRev, fList_tN, fRev_lN, fTuple_lT, m1, m2, m3, oNe_tN, decide_true]) (subs lots.length) () _ h ⟨⟨rfl, none, none, rfl⟩, fun x hx => mem_subs.mp hx⟩
  exact ⟨e2, h2, q, i1, i2⟩
theorem law_math (ns : List Int) (hn : ns.length ≤ 63) : ∃ h, F_law [.frl (ns.map D.int)] [] = .ok (.bl true) h := by
  obtain ⟨ds, m1⟩ := l_draws ns hn
  obtain ⟨t, ds1, ht, m2⟩ := l_take ds (n := 5) (by omega)
  obtain ⟨n, ds2, hn', m3⟩ := l_take ds1 (n := 6) (by omega)
  obtain ⟨w, hw⟩ : ∃ w, w = 1 + t := ⟨_, rfl⟩
  have h1 : 1 ≤ w := by omega
  have h2 : w ≤ 12 := by omega
  obtain ⟨lots, ds3, hc, hz, m4⟩ := l_base ds2 (w := w) (n := n) (by omega) (by omega) (by omega) []
  obtain ⟨A, ds4, hA, hAl, m5⟩ := l_short ds3 (n := w) (by omega) (by omega) []
  obtain ⟨B, ds5, hB, hBl, m6⟩ := l_short ds4 (n := w) (by omega) (by omega) []
  have hz8 : lots.length ≤ 8 := by omega
  obtain ⟨ds6, m7⟩ := l_bases_so h1 h2 hc (by omega) ds5 []
  obtain ⟨s, ds7, hs', m8⟩ := l_take ds6 (n := 4) (by omega)
  have m2' : F__law_take [.ref 0, .int 5] [iD ds] = .ok (nI t) [iD ds1] := m2 []
  have m3' : F__law_take [.ref 0, .int 6] [iD ds1] = .ok (nI n) [iD ds2] := m3 []
  have m8' : F__law_take [.ref 0, .int 4] [iD ds6] = .ok (nI s) [iD ds7] := m8 []
  have mA : oAdd (.int 1) (nI t) [iD ds1] = .ok (nI w) [iD ds1] := by rw [hw]; exact oAdd_nat 1 t _
  have a1 := l_is_so h1 h2 hc hz8 hA hAl [iD ds6]
  have a2 := l_is_so h1 h2 hc hz8 hB hBl [iD ds6]
  have a3 := fLen_lT lots [iD ds6]
  have a4 := s_all_sublists hz8 [iD ds6]
  have a5 := l_lots hz8 [iD ds6]
  have a6 := l_are (n := lots.length) (A := subs lots.length) (fun S hS => mem_subs.mp hS) [iD ds6]
  obtain ⟨e2, hh, lp, rfl, x6, x8, rfl⟩ := law_loop h1 h2 hc hz8 (some (.frl (ns.map D.int))) (some (.ref 0)) (some (tN A)) (some (tN B)) none [iD ds6]
  have it : (iAny (eFn 1 F__law_lots (aCons (eCall fLen (aCons (eVar 3) aNil)) aNil))) [some (.frl (ns.map D.int)), some (.ref 0), some (nI w), some (lT lots), some (tN A), some (tN B), none, none, none] [iD ds6] = .ok ⟨(subs lots.length).map tN, []⟩ [iD ds6] := iAny_e (d := lT (subs lots.length)) (by simp only [fnM, env0, sSeq, sSet, sRet, sRetN, sIf, sExpr, sNil, onR, eVar, eC, eOp, eAnd, eOr, eNot, eNeg, eIf, bAnd, bOr, bNot, bOp, bTru, asB, eChain, eCall, eFn, eFnD, eFnK, aCons, aNil, R.bind, List.length_cons, List.length_nil, List.replicate, List.map_cons, List.map_nil, List.cons_append, List.nil_append, List.getElem?_cons_zero, List.getElem?_cons_succ, List.set_cons_zero, List.set_cons_succ, wipeE, tgN, truth, bYes, pl_int, pl_bl, pl_non, pl_str, pl_tup, pl_lst, Nat.reduceAdd, Nat.reduceSub, Nat.reduceLT, if_true, Bool.true_and, Bool.and_true, Bool.not_true, Bool.not_false, Bool.false_eq_true, if_false, Nat.zero_add, truth_bl, fTuple_lst, fTuple_tup, a3, a5]) (.inr rfl)
  have b1 := l_carried h2 hz8 A [iD ds6]
  have b2 := l_carried h2 hz8 B [iD ds6]
  rw [carC_eq] at b1 b2
  have gB := GB_lT (by omega : w ≤ 1000) hc hz8
  have c1 := s_rests h1 h2 gB (GR_tN hA (by omega)) hAl [iD ds6]
  have c2 := s_rests h1 h2 gB (GR_tN hB (by omega)) hBl [iD ds6]
  have c3 := s_kernels h1 h2 gB (GR_tN hA (by omega)) hAl [iD ds6]
  have c4 := s_kernels h1 h2 gB (GR_tN hB (by omega)) hBl [iD ds6]
  have fA := cB_fam w lots A
  have fB := cB_fam w lots B
  have d1 : decide (restsL lots.length (cB w lots A) = restsL lots.length (cB w lots B)) = decide (famC lots.length (cB w lots A) = famC lots.length (cB w lots B)) := decide_eq_decide.mpr (same_rest fA fB)
  have d2 : decide (kernL lots.length (cB w lots A) = kernL lots.length (cB w lots B)) = decide (famC lots.length (cB w lots A) = famC lots.length (cB w lots B)) := decide_eq_decide.mpr (same_kern fA fB)
  have a7 := l_eight h1 h2 hc hz8 hA hAl [iD ds7]
  have a8 := l_doors_so h1 h2 hc hz8 [iD ds7]
  have a9 : oEq (nI s) (.int 0) [iD ds7] = .ok (.bl (decide (s = 0))) [iD ds7] := by rw [oEq_int]; congr 2; exact decide_eq_decide.mpr (by omega)
  refine ⟨[], ?_⟩
  simp only [lawB] at lp
  simp only [F_law, m_law, fnM, env0, sSeq, sSet, sRet, sRetN, sIf, sExpr, sNil, onR, eVar, eC, eOp, eAnd, eOr, eNot, eNeg, eIf, bAnd, bOr, bNot, bOp, bTru, asB, eChain, eCall, eFn, eFnD, eFnK, aCons, aNil, R.bind, List.length_cons, List.length_nil, List.replicate, List.map_cons, List.map_nil, List.cons_append, List.nil_append, List.getElem?_cons_zero, List.getElem?_cons_succ, List.set_cons_zero, List.set_cons_succ, wipeE, tgN, truth, bYes, pl_int, pl_bl, pl_non, pl_str, pl_tup, pl_lst, Nat.reduceAdd, Nat.reduceSub, Nat.reduceLT, if_true, Bool.true_and, Bool.and_true, Bool.not_true, Bool.not_false, Bool.false_eq_true, if_false, Nat.zero_add, truth_bl, fTuple_lst, fTuple_tup, m1, m2', mA, m3', m4, m5, m6, m7, a1, a2, a3, a4, a5, a6, sFor, it, lp, b1, b2, oEq_lT, c1, c2, c3, c4, oEq_tT, d1, d2, oNe_bl, decide_true, m8', a9]
  cases decide (s = 0) with
  | true =>
    simp only [fnM, env0, sSeq, sSet, sRet, sRetN, sIf, sExpr, sNil, onR, eVar, eC, eOp, eAnd, eOr, eNot, eNeg, eIf, bAnd, bOr, bNot, bOp, bTru, asB, eChain, eCall, eFn, eFnD, eFnK, aCons, aNil, R.bind, List.length_cons, List.length_nil, List.replicate, List.map_cons, List.map_nil, List.cons_append, List.nil_append, List.getElem?_cons_zero, List.getElem?_cons_succ, List.set_cons_zero, List.set_cons_succ, wipeE, tgN, truth, bYes, pl_int, pl_bl, pl_non, pl_str, pl_tup, pl_lst, Nat.reduceAdd, Nat.reduceSub, Nat.reduceLT, if_true, Bool.true_and, Bool.and_true, Bool.not_true, Bool.not_false, Bool.false_eq_true, if_false, Nat.zero_add, truth_bl, fTuple_lst, fTuple_tup, a7, a8]
    rw [finR_nr rfl]; rfl
  | false =>
    simp only [fnM, env0, sSeq, sSet, sRet, sRetN, sIf, sExpr, sNil, onR, eVar, eC, eOp, eAnd, eOr, eNot, eNeg, eIf, bAnd, bOr, bNot, bOp, bTru, asB, eChain, eCall, eFn, eFnD, eFnK, aCons, aNil, R.bind, List.length_cons, List.length_nil, List.replicate, List.map_cons, List.map_nil, List.cons_append, List.nil_append, List.getElem?_cons_zero, List.getElem?_cons_succ, List.set_cons_zero, List.set_cons_succ, wipeE, tgN, truth, bYes, pl_int, pl_bl, pl_non, pl_str, pl_tup, pl_lst, Nat.reduceAdd, Nat.reduceSub, Nat.reduceLT, if_true, Bool.true_and, Bool.and_true, Bool.not_true, Bool.not_false, Bool.false_eq_true, if_false, Nat.zero_add, truth_bl, fTuple_lst, fTuple_tup, a8]
    rw [finR_nr rfl]; rfl
end Law
end
end
section
set_option Elab.async false
set_option linter.all false
set_option maxRecDepth 100000
set_option maxHeartbeats 0
namespace Law
open PySem PySem.Spec PyProof.Rows L2 Nb
theorem facts {P : Program} {w : World} {K : PySem.W.Frag} {h : Heap} {mg : Str → Option Value} {f : Addr} (X : K.In h) (G : h.Ns mainGlobals mg) (hfa : mg ("law" : Str) = some (.ref f)) (c : SaysN preds fal fnl K) :
    ∃ fd : FuncData, (∀ (s : Shared) (v : Value), BindsTo s fd ⟨[v], []⟩ [("_law_script", v)]) ∧ ∀ base : Heap, K.In base → base.Ns mainGlobals mg → FnOk P w K mg base CX0 11 f fd ["_law_script"] (Nb.spLaw K F_law) := by
  have Fx : FX preds globs frees fnl K mg := fx_of X G c
  have e := hfa.symm.trans (Fx.g 63 (x := "law") rfl)
  cases e
  have F := Fx.d 57 (d := dfOf "law" 68 []) rfl
  have b := FunD.bindsA (ps := ["_law_script"]) F fun _ _ _ _ _ _ us hl => match us, hl with | [_], _ => rfl
  exact ⟨fdOf K ("law", none), fun s v => b s [v] rfl, fun base _ _ => law_cx0 (cl := fun _ _ => False) (ok_law Fx) (law_sp law_math)⟩
end Law
open PySem PySem.W PySem.Calls PyProof.Rows
theorem PySem.Challenge.cw_newsbooks_k95_rests_and_kernels_holds : PySem.Challenge.rw_newsbooks_k95_rests_and_kernels.Holds := by
  w_on; o_law
  refine HandSHeadRun.head_any (r := OpenLaw.row PySem.Challenge.rw_newsbooks_k95_rests_and_kernels) (q := view (OpenLaw.row PySem.Challenge.rw_newsbooks_k95_rests_and_kernels).prog [68]) (H := Law.hk) (ob := Law.ob) (M := 6000) (loose := Law.loose) (d := HandSHeadRun.topDef (OpenLaw.row PySem.Challenge.rw_newsbooks_k95_rests_and_kernels).prog 68) (kwd := []) Law.ob_eq
    (by kernel_rfl) (fun s => by kernel_rfl) Law.run (by kernel_rfl) (by kernel_rfl) (by kernel_rfl) (by rfl) (by first | assumption | decide +kernel) (by decide +kernel) ⟨rfl, rfl, rfl, rfl, rfl, by decide +kernel⟩ ?hw ?hc
  case hw => w_witness2
  case hc =>
    refine L2.walk_ofE (l := PySem.Challenge.rw_newsbooks_k95_rests_and_kernels) (n := 63) (k := 11) (x := "_law_script") (CX := L2.CX0) rfl (by decide) (by kernel_rfl) ⟨rfl, by decide, by decide⟩ ?F (fun _ _ _ _ z => z)
    intro w mg fa h Y G hmg0
    obtain ⟨K, KX, c⟩ := Y
    have hmg : mg ("law" : PySem.Str) = some (.ref fa) := by
      have e : (HandSHeadRun.topDef (OpenLaw.row PySem.Challenge.rw_newsbooks_k95_rests_and_kernels).prog 68).name = ("law" : PySem.Str) := by kernel_rfl
      rw [← e]
      exact hmg0
    obtain ⟨fd, hb, hF⟩ := Law.facts (P := (PySem.Challenge.rw_newsbooks_k95_rests_and_kernels).prog) (w := w) KX G hmg c
    exact ⟨K, fd, Nb.spLaw K Law.F_law, KX, hb, fun H a ns hl _ hS => ⟨a, ns, rfl, hl, hS, fun _ => rfl⟩, hF⟩
end
