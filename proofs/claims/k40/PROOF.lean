import PyProof.Rows.All
import Wide.All
import OpenK.AllK
import Wide.FinOn
import HandS.ForMost
import HandS.ForExc
import HandS.IsInst
import HandS.Wide
import HandS.Deep
import HandS.Style
import HandS.SortInts
import HandS.ExcInit
import HandS.Nested
import KE.KSuper
import KE.KExcSuper
import HandS.TryMany
import HandS.ExcField
import HandS.ExcIs
import KE.KExcIs
import KE.DataMinMax
import PySem.Challenge.RW_waybill_k40_loads_and_crossings
set_option Elab.async false
set_option linter.all false
set_option maxRecDepth 100000
/-! The plain layer: a def whose values are plain data. -/
namespace PL
open PySem L2

/-! ### plain data -/
inductive Dt where
  | non | bl (b : Bool) | int (i : Int) | str (x : Str) | lst (l : List Dt) | tup (l : List Dt) | scr (l : List Int) | ty (n : String)

/-- an error: its class's name, its fields -/
structure Ex where
  cls : Str
  fs : List (Str × Dt)
inductive Rs (α : Type) where
  | ok (a : α) | err (x : Ex) | bad
def Rs.bind {α β : Type} (r : Rs α) (f : α → Rs β) : Rs β := match r with
  | .ok a => f a
  | .err x => .err x
  | .bad => .bad
@[simp] theorem Rs.bind_ok {α β : Type} (a : α) (f : α → Rs β) : (Rs.ok a).bind f = f a := (rfl)
@[simp] theorem Rs.bind_err {α β : Type} (x : Ex) (f : α → Rs β) : (Rs.err x : Rs α).bind f = .err x := (rfl)
@[simp] theorem Rs.bind_bad {α β : Type} (f : α → Rs β) : (Rs.bad : Rs α).bind f = .bad := (rfl)

mutual
inductive Den (K : PySem.W.Frag) (G : Hp) : Dt → V → Prop
  | non : Den K G .non .non
  | bl (b : Bool) : Den K G (.bl b) (.bl b)
  | int (i : Int) : Den K G (.int i) (.int i)
  | str (x : Str) (h : PyData.strOk x = true) : Den K G (.str x) (.str x)
  | ty (n : String) : Den K G (.ty n) (.ty n)
  | lst {a : Addr} {vs : List V} {ds : List Dt} : G a = some (.lst vs) → DenL K G ds vs → Den K G (.lst ds) (.ref a)
  | tup {a : Addr} {vs : List V} {ds : List Dt} : G a = some (.tup vs) → DenL K G ds vs → Den K G (.tup ds) (.ref a)
  | scr {a : Addr} {ns : List Int} : SqL K G a (ns.map V.int) → Den K G (.scr ns) (.ref a)
inductive DenL (K : PySem.W.Frag) (G : Hp) : List Dt → List V → Prop
  | nil : DenL K G [] []
  | cons {d : Dt} {v : V} {ds : List Dt} {vs : List V} : Den K G d v → DenL K G ds vs → DenL K G (d :: ds) (v :: vs)
end
section
variable {K : PySem.W.Frag} {G G' : Hp}
mutual
theorem Den.mono (h : Same G G') : ∀ {d : Dt} {v : V}, Den K G d v → Den K G' d v
  | _, _, .non => .non
  | _, _, .bl b => .bl b
  | _, _, .int i => .int i
  | _, _, .str x h => .str x h
  | _, _, .ty n => .ty n
  | _, _, .lst e r => .lst (h _ _ e) (DenL.mono h r)
  | _, _, .tup e r => .tup (h _ _ e) (DenL.mono h r)
  | _, _, .scr e => .scr (h.seq e)
theorem DenL.mono (h : Same G G') : ∀ {ds : List Dt} {vs : List V}, DenL K G ds vs → DenL K G' ds vs
  | _, _, .nil => .nil
  | _, _, .cons a b => .cons (Den.mono h a) (DenL.mono h b)
end
theorem DenL.length : ∀ {ds : List Dt} {vs : List V}, DenL K G ds vs → ds.length = vs.length
  | _, _, .nil => rfl
  | _, _, .cons _ b => congrArg (· + 1) (DenL.length b)
theorem DenL.get : ∀ {ds : List Dt} {vs : List V} {i : Nat} {d : Dt}, DenL K G ds vs → ds[i]? = some d → ∃ v, vs[i]? = some v ∧ Den K G d v
  | _, _, _, _, .nil, e => by simp at e
  | _, _, 0, _, .cons a _, e => by
    simp at e
    subst e
    exact ⟨_, rfl, a⟩
  | _, _, i + 1, d, .cons _ b, e => by
    obtain ⟨v, h1, h2⟩ := DenL.get (i := i) (d := d) b (by simpa using e)
    exact ⟨v, by simpa using h1, h2⟩
theorem DenL.set {x : Dt} {u : V} (r : Den K G x u) : ∀ {ds : List Dt} {vs : List V} (i : Nat), DenL K G ds vs → DenL K G (ds.set i x) (vs.set i u)
  | _, _, _, .nil => .nil
  | _, _, 0, .cons _ t => .cons r t
  | _, _, i + 1, .cons q t => .cons q (DenL.set r i t)
theorem DenL.append : ∀ {ds es : List Dt} {vs ws : List V}, DenL K G ds vs → DenL K G es ws → DenL K G (ds ++ es) (vs ++ ws)
  | _, _, _, _, .nil, s => s
  | _, _, _, _, .cons a b, s => .cons a (DenL.append b s)
theorem DenL.take : ∀ {ds : List Dt} {vs : List V} (n : Nat), DenL K G ds vs → DenL K G (ds.take n) (vs.take n)
  | _, _, 0, _ => .nil
  | _, _, _ + 1, .nil => .nil
  | _, _, n + 1, .cons r t => .cons r (DenL.take n t)
theorem DenL.drop : ∀ {ds : List Dt} {vs : List V} (n : Nat), DenL K G ds vs → DenL K G (ds.drop n) (vs.drop n)
  | _, _, 0, r => r
  | _, _, _ + 1, .nil => .nil
  | _, _, n + 1, .cons _ t => DenL.drop n t
theorem DenL.reverse : ∀ {ds : List Dt} {vs : List V}, DenL K G ds vs → DenL K G ds.reverse vs.reverse
  | _, _, .nil => .nil
  | _, _, .cons (d := d) (v := v) (ds := ds) (vs := vs) a b => by
    rw [List.reverse_cons, List.reverse_cons]
    exact (DenL.reverse b).append (.cons a .nil)
theorem DenL.dropLast {ds : List Dt} {vs : List V} (h : DenL K G ds vs) : DenL K G ds.dropLast vs.dropLast := by
  rw [List.dropLast_eq_take, List.dropLast_eq_take, ← h.length]
  exact h.take _
end

/-! ### growth: the frozen part G of the tracked heap H -/
structure Gr (G H G' H' : Hp) : Prop where
  h : Same H H'
  g : Same G G'
  gh : Same G' H'
  fr : ∀ p, H p ≠ none → G p = none → G' p = none
theorem Gr.refl {G H : Hp} (s : Same G H) : Gr G H G H := ⟨.refl _, .refl _, s, fun _ _ h => h⟩
theorem someOf {H H' : Hp} (s : Same H H') {p : Addr} (h : H p ≠ none) : H' p ≠ none := by
  cases e : H p with
  | none => exact absurd e h
  | some o => rw [s _ _ e]; exact fun z => nomatch z
theorem Gr.trans {G H G1 H1 G2 H2 : Hp} (a : Gr G H G1 H1) (b : Gr G1 H1 G2 H2) : Gr G H G2 H2 :=
  ⟨a.h.trans b.h, a.g.trans b.g, b.gh, fun p h g => b.fr p (someOf a.h h) (a.fr p h g)⟩
/-- a new frozen object -/
theorem Gr.new {G H : Hp} (s : Same G H) {p : Addr} {o : HO} (n : H p = none) : Gr G H (upd G p o) (upd H p o) where
  h := fun b x e => by rw [upd_ne (ne_of_none e n)]; exact e
  g := fun b x e => by rw [upd_ne (ne_of_none (s _ _ e) n)]; exact e
  gh := fun b x e => by
    by_cases hb : b = p
    · subst hb
      rw [upd_same] at e ⊢
      exact e
    · rw [upd_ne hb] at e ⊢
      exact s _ _ e
  fr := fun b h g => by
    have hb : b ≠ p := fun z => h (z ▸ n)
    rw [upd_ne hb]
    exact g
/-- a new object that is not frozen -/
theorem Gr.newH {G H : Hp} (s : Same G H) {p : Addr} {o : HO} (n : H p = none) : Gr G H G (upd H p o) where
  h := fun b x e => by rw [upd_ne (ne_of_none e n)]; exact e
  g := .refl _
  gh := fun b x e => by rw [upd_ne (ne_of_none (s _ _ e) n)]; exact s _ _ e
  fr := fun b h g => g

/-! ### slots -/
/-- a slot: unknown, a datum, a list of one's own, a list of lists of one's own, the error that a suite handles -/
inductive Sl where
  | un | val (d : Dt) | own (l : List Dt) | own2 (l : List (List Dt)) | exc (x : Ex)
abbrev Ev := List Sl

def OwnL (K : PySem.W.Frag) (G H : Hp) : List Addr → List (List Dt) → Prop
  | [], [] => True
  | a :: as, l :: ls => (∃ vs, H a = some (.lst vs) ∧ DenL K G l vs) ∧ OwnL K G H as ls
  | _, _ => False
/-- an error's fields as they lie in its own dict -/
def ExD (K : PySem.W.Frag) (G : Hp) (x : Ex) (dx : Option Addr) : Prop :=
  (x.fs = [] ∧ dx = none) ∨ ∃ d fs, dx = some d ∧ G d = some (.xd fs) ∧ ∀ f y, x.fs.lookup f = some y → ∃ v, fs.lookup f = some v ∧ Den K G y v
theorem ExD.mono {K : PySem.W.Frag} {G G' : Hp} {x : Ex} {dx : Option Addr} (s : Same G G') (h : ExD K G x dx) : ExD K G' x dx := by
  rcases h with h2 | ⟨d, fs, e, g, r⟩
  · exact .inl h2
  · refine .inr ⟨d, fs, e, s _ _ g, fun f y q => ?_⟩
    obtain ⟨v, a, b⟩ := r f y q
    exact ⟨v, a, b.mono s⟩
/-- what a context tells: the written part, the module's names, the pins (in a suite the error's object first) -/
structure Fx where
  K : PySem.W.Frag
  mg : Str → Option Value
  pn : List (Addr × Obj)
abbrev _root_.L2.Cx.fx (X : Cx) : Fx := ⟨X.K, X.mg, X.pn⟩
def SlOk (K : Fx) (G H : Hp) (F : List Addr) : Sl → Option V → Prop
  | .un, _ => F = []
  | .val d, o => F = [] ∧ ∃ v, o = some v ∧ Den K.K G d v
  | .own l, o => ∃ a vs, F = [a] ∧ o = some (.ref a) ∧ H a = some (.lst vs) ∧ DenL K.K G l vs
  | .own2 ls, o => ∃ a as, F = a :: as ∧ F.Nodup ∧ o = some (.ref a) ∧ H a = some (.lst (as.map V.ref)) ∧ OwnL K.K G H as ls
  | .exc x, o => F = [] ∧ ∃ a oe C, K.pn.head? = some (a, oe) ∧ o = some (.ref a) ∧ oe.cls = .ref C ∧ K.mg x.cls = some (.ref C) ∧ ExD K.K G x oe.dict

/-- the footprints of the slots -/
structure Fpr (K : Fx) (B G H : Hp) (E : Ev) (σ : St) (F : Nat → List Addr) : Prop where
  sl : ∀ i s, E[i]? = some s → SlOk K G H (F i) s (σ[i]?).join
  inj : ∀ i j a, a ∈ F i → a ∈ F j → i = j
  fr : ∀ i a, a ∈ F i → B a = none ∧ G a = none ∧ H a ≠ none
structure EnvOk (K : Fx) (B G H : Hp) (E : Ev) (σ : St) : Prop where
  len : σ.length = E.length
  bh : Same B H
  gh : Same G H
  fp : ∃ F : Nat → List Addr, Fpr K B G H E σ F

section
variable {K : Fx} {B G H G' H' : Hp} {E : Ev} {σ : St}
theorem OwnL.mono {K : PySem.W.Frag} {F : List Addr} (g : Same G G') (h : ∀ a, a ∈ F → H' a = H a) : ∀ {as : List Addr} {ls : List (List Dt)}, (∀ a, a ∈ as → a ∈ F) → OwnL K G H as ls → OwnL K G' H' as ls
  | [], [], _, _ => True.intro
  | a :: as, l :: ls, m, ⟨⟨vs, e, r⟩, q⟩ => ⟨⟨vs, by rw [h a (m a List.mem_cons_self)]; exact e, r.mono g⟩, OwnL.mono g h (fun b hb => m b (List.mem_cons_of_mem _ hb)) q⟩
  | [], _ :: _, _, q => q.elim
  | _ :: _, [], _, q => q.elim
theorem SlOk.mono {F : List Addr} {s : Sl} {o : Option V} (g : Same G G') (h : ∀ a, a ∈ F → H' a = H a) (x : SlOk K G H F s o) : SlOk K G' H' F s o := by
  cases s with
  | un => exact x
  | val d => obtain ⟨f, v, e, r⟩ := x; exact ⟨f, v, e, r.mono g⟩
  | own l =>
    obtain ⟨a, vs, f, e, q, r⟩ := x
    exact ⟨a, vs, f, e, by rw [h a (by rw [f]; exact List.mem_cons_self)]; exact q, r.mono g⟩
  | own2 ls =>
    obtain ⟨a, as, f, n, e, q, r⟩ := x
    exact ⟨a, as, f, n, e, by rw [h a (by rw [f]; exact List.mem_cons_self)]; exact q, r.mono g h (fun b hb => by rw [f]; exact List.mem_cons_of_mem _ hb)⟩
  | exc y =>
    obtain ⟨f, a, oe, C, e1, e2, e3, e4, e5⟩ := x
    exact ⟨f, a, oe, C, e1, e2, e3, e4, e5.mono g⟩
theorem same_at {H H' : Hp} (s : Same H H') {a : Addr} (h : H a ≠ none) : H' a = H a := by
  cases e : H a with
  | none => exact absurd e h
  | some o => exact s _ _ e
/-- the heap grew -/
theorem EnvOk.grow (x : EnvOk K B G H E σ) (r : Gr G H G' H') : EnvOk K B G' H' E σ := by
  obtain ⟨F, f⟩ := x.fp
  refine ⟨x.len, x.bh.trans r.h, r.gh, F, fun i s e => (f.sl i s e).mono r.g fun a ha => same_at r.h (f.fr i a ha).2.2, f.inj, fun i a ha => ?_⟩
  obtain ⟨b, g, h⟩ := f.fr i a ha
  exact ⟨b, r.fr a h g, someOf r.h h⟩
theorem join_set_self {σ : St} {i : Nat} {o : Option V} (h : i < σ.length) : ((σ.set i o)[i]?).join = o := by
  rw [List.getElem?_set_self h]
  rfl
theorem join_set_ne {σ : St} {i j : Nat} {o : Option V} (h : i ≠ j) : ((σ.set i o)[j]?).join = (σ[j]?).join := by
  rw [List.getElem?_set_ne h]
theorem sl_set_ne {E : Ev} {i j : Nat} {s u : Sl} (h : i ≠ j) (e : (E.set i s)[j]? = some u) : E[j]? = some u := by
  rwa [List.getElem?_set_ne h] at e
/-- the slot i is given anew: its footprint F', apart from all others -/
theorem EnvOk.put (x : EnvOk K B G H E σ) {i : Nat} {s : Sl} {o : Option V} {F' : List Addr} (hb : Same B H') (hg : Same G G') (hgh : Same G' H')
    (hs : SlOk K G' H' F' s o)
    (hk : ∀ (F : Nat → List Addr), Fpr K B G H E σ F →
      (∀ a, a ∈ F' → B a = none ∧ G' a = none ∧ H' a ≠ none) ∧ ∀ j a, j ≠ i → a ∈ F j → a ∉ F' ∧ G' a = none ∧ H' a = H a) : EnvOk K B G' H' (E.set i s) (σ.set i o) := by
  obtain ⟨F, f⟩ := x.fp
  obtain ⟨k1, k2⟩ := hk F f
  have e1 : ∀ j, j = i → (if j = i then F' else F j) = F' := fun j h => if_pos h
  have e2 : ∀ j, j ≠ i → (if j = i then F' else F j) = F j := fun j h => if_neg h
  refine ⟨by rw [List.length_set, List.length_set, x.len], hb, hgh, fun j => if j = i then F' else F j, ⟨fun j u e => ?_, fun j k a hj hk' => ?_, fun j a ha => ?_⟩⟩
  · by_cases hj : j = i
    · subst hj
      have hl : j < E.length := by
        have := (List.getElem?_eq_some_iff.mp e).1
        rwa [List.length_set] at this
      rw [List.getElem?_set_self hl] at e
      cases e
      show SlOk K G' H' (if j = j then F' else F j) _ _
      rw [e1 j rfl, join_set_self (by rw [x.len]; exact hl)]
      exact hs
    · show SlOk K G' H' (if j = i then F' else F j) _ _
      rw [e2 j hj, join_set_ne (Ne.symm hj)]
      exact (f.sl j u (sl_set_ne (Ne.symm hj) e)).mono hg fun a ha => (k2 j a hj ha).2.2
  · have hj : a ∈ (if j = i then F' else F j) := hj
    have hk' : a ∈ (if k = i then F' else F k) := hk'
    by_cases ej : j = i <;> by_cases ek : k = i
    · rw [ej, ek]
    · rw [e1 j ej] at hj
      rw [e2 k ek] at hk'
      exact absurd hj (k2 k a ek hk').1
    · rw [e2 j ej] at hj
      rw [e1 k ek] at hk'
      exact absurd hk' (k2 j a ej hj).1
    · rw [e2 j ej] at hj
      rw [e2 k ek] at hk'
      exact f.inj j k a hj hk'
  · have ha : a ∈ (if j = i then F' else F j) := ha
    by_cases ej : j = i
    · rw [e1 j ej] at ha
      exact k1 a ha
    · rw [e2 j ej] at ha
      obtain ⟨b, g, h⟩ := f.fr j a ha
      obtain ⟨_, z2, z3⟩ := k2 j a ej ha
      exact ⟨b, z2, by rw [z3]; exact h⟩
/-- a datum is stored -/
theorem EnvOk.setVal (x : EnvOk K B G H E σ) {i : Nat} {d : Dt} {v : V} (r : Den K.K G d v) : EnvOk K B G H (E.set i (.val d)) (σ.set i (some v)) :=
  x.put (F' := []) x.bh (.refl _) x.gh ⟨rfl, v, rfl, r⟩ fun F f => ⟨(fun a h => nomatch h), fun j a _ ha => ⟨(fun z => nomatch z), (f.fr j a ha).2.1, rfl⟩⟩
theorem EnvOk.setUn (x : EnvOk K B G H E σ) {i : Nat} {o : Option V} : EnvOk K B G H (E.set i .un) (σ.set i o) :=
  x.put (F' := []) x.bh (.refl _) x.gh (show SlOk K G H [] .un o from rfl) fun F f => ⟨(fun a h => nomatch h), fun j a _ ha => ⟨(fun z => nomatch z), (f.fr j a ha).2.1, rfl⟩⟩
/-- a new list of one's own is stored -/
theorem EnvOk.setOwn (x : EnvOk K B G H E σ) {i : Nat} {l : List Dt} {p : Addr} {vs : List V} (hp : H p = some (.lst vs)) (hb : B p = none) (hg : G p = none) (r : DenL K.K G l vs)
    (hn : ∀ (F : Nat → List Addr), Fpr K B G H E σ F → ∀ j, j ≠ i → p ∉ F j) :
    EnvOk K B G H (E.set i (.own l)) (σ.set i (some (.ref p))) :=
  x.put (F' := [p]) x.bh (.refl _) x.gh ⟨p, vs, rfl, rfl, hp, r⟩ fun F f => ⟨fun a h => by
    rw [List.mem_singleton] at h
    subst h
    exact ⟨hb, hg, by rw [hp]; exact fun z => nomatch z⟩, fun j a hj ha => ⟨fun z => by
      rw [List.mem_singleton] at z
      subst z
      exact hn F f j hj ha, (f.fr j a ha).2.1, rfl⟩⟩
end
end PL
/-! The plain layer, expressions. -/
namespace PL
open PySem L2

/-! ### readings by plain data -/
/-- an error as it lies -/
def ExIs (mg : Str → Option Value) (K : PySem.W.Frag) (G : Hp) (x : Ex) (C : Value) (dx : Option Addr) : Prop := (∃ a, mg x.cls = some (.ref a) ∧ C = .ref a) ∧ ExD K G x dx
theorem ExIs.mono {mg : Str → Option Value} {K : PySem.W.Frag} {G G' : Hp} {x : Ex} {C : Value} {dx : Option Addr} (s : Same G G') (h : ExIs mg K G x C dx) : ExIs mg K G' x C dx := ⟨h.1, h.2.mono s⟩
def After {α : Type} (X : Cx) (W : WX) (σ : St) (G H : Hp) (r : Rs α) (k : α → Hp → Hp → Prop) : Prop := match r with
  | .ok a => ∀ G' H', Gr G H G' H' → k a G' H'
  | .err x => ∀ C dx G' H', Gr G H G' H' → ExIs X.mg X.K G' x C dx → W C dx σ H'
  | .bad => False
section
variable {X : Cx} {W : WX} {σ : St} {α β : Type} {G H G' H' : Hp}
theorem After.grow {r : Rs α} {k : α → Hp → Hp → Prop} (g : Gr G H G' H') (h : After X W σ G H r k) : After X W σ G' H' r k := by
  cases r with
  | ok a => exact fun G2 H2 g2 => h G2 H2 (g.trans g2)
  | err x => exact fun C dx G2 H2 g2 e => h C dx G2 H2 (g.trans g2) e
  | bad => exact h
theorem After.bind {r : Rs α} {f : α → Rs β} {k : β → Hp → Hp → Prop} (h : After X W σ G H (r.bind f) k) : After X W σ G H r (fun a G' H' => After X W σ G' H' (f a) k) := by
  cases r with
  | ok a => exact fun G2 H2 g2 => After.grow g2 h
  | err x => exact h
  | bad => exact h
theorem After.imp {r : Rs α} {k k' : α → Hp → Hp → Prop} (h : After X W σ G H r k) (w : ∀ a G' H', Gr G H G' H' → k a G' H' → k' a G' H') : After X W σ G H r k' := by
  cases r with
  | ok a => exact fun G2 H2 g2 => w a G2 H2 g2 (h G2 H2 g2)
  | err x => exact h
  | bad => exact h
theorem After.ok {a : α} {k : α → Hp → Hp → Prop} (s : Same G H) (h : After X W σ G H (.ok a) k) : k a G H := h G H (.refl s)
end
def XR (X : Cx) (W : WX) (f : Ev → Rs Dt) : TE := fun σ H Q => ∃ B G E, EnvOk X.fx B G H E σ ∧ After X W σ G H (f E) fun d G' H' => ∀ v, Den X.K G' d v → Q v H'
def TR (X : Cx) (W : WX) (f : Ev → Rs Bool) : TT := fun σ H Q => ∃ B G E, EnvOk X.fx B G H E σ ∧ After X W σ G H (f E) fun b G' H' => Q b H'
def AR (X : Cx) (W : WX) (f : Ev → Rs (List Dt)) : TA := fun σ H Q => ∃ B G E, EnvOk X.fx B G H E σ ∧ After X W σ G H (f E) fun ds G' H' => ∀ vs, DenL X.K G' ds vs → Q vs H'
structure PX (X : Cx) (W : WX) (e : Expr) (f : Ev → Rs Dt) : Prop where
  pe : PE X e (XR X W f)
structure PTX (X : Cx) (W : WX) (e : Expr) (f : Ev → Rs Bool) : Prop where
  pt : PT X e (TR X W f)
structure PAX (X : Cx) (W : WX) (es : List Expr) (f : Ev → Rs (List Dt)) : Prop where
  pa : PA X es (AR X W f)
theorem PE.imp {X : Cx} {e : Expr} {t t' : TE} (h : PE X e t) (w : ∀ σ H Q, t' σ H Q → t σ H Q) : PE X e t' := ⟨fun pins s σ H Q I q => h.run pins s σ H Q I (w σ H Q q)⟩
theorem PT.imp {X : Cx} {e : Expr} {t t' : TT} (h : PT X e t) (w : ∀ σ H Q, t' σ H Q → t σ H Q) : PT X e t' := ⟨fun pins s σ H Q I q => h.run pins s σ H Q I (w σ H Q q)⟩
theorem PA.imp {X : Cx} {e : List Expr} {t t' : TA} (h : PA X e t) (w : ∀ σ H Q, t' σ H Q → t σ H Q) : PA X e t' := ⟨fun pos pins s σ H Q I q => h.run pos pins s σ H Q I (w σ H Q q)⟩
theorem PS.imp {X : Cx} {e : Stmt} {t t' : TS} (h : PS X e t) (w : ∀ D σ H, t' D σ H → t D σ H) : PS X e t' := ⟨fun pins s σ H D I q => h.run pins s σ H D I (w D σ H q)⟩
theorem PSs.imp {X : Cx} {e : List Stmt} {t t' : TS} (h : PSs X e t) (w : ∀ D σ H, t' D σ H → t D σ H) : PSs X e t' := ⟨fun pins s σ H D I q => h.run pins s σ H D I (w D σ H q)⟩

def Rs.of {α : Type} : Option α → Rs α
  | some a => .ok a
  | none => .bad
@[simp] theorem Rs.of_some {α : Type} (a : α) : Rs.of (some a) = .ok a := (rfl)
@[simp] theorem Rs.of_none {α : Type} : Rs.of (none : Option α) = .bad := (rfl)

/-! ### the functions -/
def eVar (i : Nat) (E : Ev) : Rs Dt := match E[i]? with
  | some (.val d) => .ok d
  | _ => .bad
def eC (d : Dt) (_ : Ev) : Rs Dt := .ok d
def eOp (g : Dt → Dt → Option Dt) (a b : Ev → Rs Dt) (E : Ev) : Rs Dt := (a E).bind fun x => (b E).bind fun y => Rs.of (g x y)
def eUn (g : Dt → Option Dt) (a : Ev → Rs Dt) (E : Ev) : Rs Dt := (a E).bind fun x => Rs.of (g x)
def eCons (a : Ev → Rs Dt) (r : Ev → Rs (List Dt)) (E : Ev) : Rs (List Dt) := (a E).bind fun x => (r E).bind fun xs => .ok (x :: xs)
def eNil (_ : Ev) : Rs (List Dt) := .ok []
/-- a built-in's call by its arguments -/
def eCB (g : List Dt → Option Dt) (r : Ev → Rs (List Dt)) (E : Ev) : Rs Dt := (r E).bind fun xs => Rs.of (g xs)
def bTest (a : Ev → Rs Dt) (E : Ev) : Rs Bool := (a E).bind fun d => match d with
  | .bl b => .ok b
  | _ => .bad
def eBool (t : Ev → Rs Bool) (E : Ev) : Rs Dt := (t E).bind fun b => .ok (.bl b)
def bAnd (a b : Ev → Rs Bool) (E : Ev) : Rs Bool := (a E).bind fun x => if x = true then b E else .ok false
def bOr (a b : Ev → Rs Bool) (E : Ev) : Rs Bool := (a E).bind fun x => if x = true then .ok true else b E
def bNot (a : Ev → Rs Bool) (E : Ev) : Rs Bool := (a E).bind fun x => .ok (!x)
def eIf (c : Ev → Rs Bool) (a b : Ev → Rs Dt) (E : Ev) : Rs Dt := (c E).bind fun x => if x = true then a E else b E

/-! ### soundness of operations by values -/
def Snd2 (X : Cx) (r : R2) (g : Dt → Dt → Option Dt) : Prop := ∀ (G H : Hp) (x y d : Dt) (v w : V) (Q : VK), Same G H → Den X.K G x v → Den X.K G y w → g x y = some d →
  (∀ u G' H', Gr G H G' H' → Den X.K G' d u → Q u H') → r v w H Q
def Snd1 (X : Cx) (r : V → Hp → VK → Prop) (g : Dt → Option Dt) : Prop := ∀ (G H : Hp) (x d : Dt) (v : V) (Q : VK), Same G H → Den X.K G x v → g x = some d →
  (∀ u G' H', Gr G H G' H' → Den X.K G' d u → Q u H') → r v H Q
def SndC (X : Cx) (r : List V → Hp → VK → Prop) (g : List Dt → Option Dt) : Prop := ∀ (G H : Hp) (xs : List Dt) (d : Dt) (vs : List V) (Q : VK), Same G H → DenL X.K G xs vs → g xs = some d →
  (∀ u G' H', Gr G H G' H' → Den X.K G' d u → Q u H') → r vs H Q
section
variable {X : Cx} {W : WX} {σ : St} {G H B : Hp} {E : Ev}
theorem XR.mono {f : Ev → Rs Dt} {Q Q' : VK} (h : XR X W f σ H Q) (w : ∀ v H', Q v H' → Q' v H') : XR X W f σ H Q' := by
  obtain ⟨B, G, E, x, h⟩ := h
  exact ⟨B, G, E, x, h.imp fun a G' H' _ k v r => w v H' (k v r)⟩
theorem After.of {α : Type} {o : Option α} {k : α → Hp → Hp → Prop} (h : After X W σ G H (Rs.of o) k) : ∃ a, o = some a ∧ ∀ G' H', Gr G H G' H' → k a G' H' := by
  cases o with
  | none => exact h.elim
  | some a => exact ⟨a, rfl, h⟩
/-- from an evaluation's wish, the parts one after the other -/
theorem xr_of {f : Ev → Rs Dt} {Q : VK} (x : EnvOk X.fx B G H E σ) (h : After X W σ G H (f E) fun d G' H' => ∀ v, Den X.K G' d v → Q v H') : XR X W f σ H Q := ⟨B, G, E, x, h⟩
theorem xr_bind {f : Ev → Rs Dt} {β : Type} {g : Dt → Rs β} {k : β → Hp → Hp → Prop} {Q : VK} (x : EnvOk X.fx B G H E σ) (h : After X W σ G H ((f E).bind g) k)
    (q : ∀ d v G' H', Gr G H G' H' → EnvOk X.fx B G' H' E σ → Den X.K G' d v → After X W σ G' H' (g d) k → Q v H') : XR X W f σ H Q :=
  ⟨B, G, E, x, h.bind.imp fun d G' H' gr a v r => q d v G' H' gr (x.grow gr) r a⟩
theorem tr_bind {f : Ev → Rs Bool} {β : Type} {g : Bool → Rs β} {k : β → Hp → Hp → Prop} {Q : Bool → Hp → Prop} (x : EnvOk X.fx B G H E σ) (h : After X W σ G H ((f E).bind g) k)
    (q : ∀ b G' H', Gr G H G' H' → EnvOk X.fx B G' H' E σ → After X W σ G' H' (g b) k → Q b H') : TR X W f σ H Q :=
  ⟨B, G, E, x, h.bind.imp fun b G' H' gr a => q b G' H' gr (x.grow gr) a⟩
theorem ar_bind {f : Ev → Rs (List Dt)} {β : Type} {g : List Dt → Rs β} {k : β → Hp → Hp → Prop} {Q : List V → Hp → Prop} (x : EnvOk X.fx B G H E σ) (h : After X W σ G H ((f E).bind g) k)
    (q : ∀ ds vs G' H', Gr G H G' H' → EnvOk X.fx B G' H' E σ → DenL X.K G' ds vs → After X W σ G' H' (g ds) k → Q vs H') : AR X W f σ H Q :=
  ⟨B, G, E, x, h.bind.imp fun ds G' H' gr a vs r => q ds vs G' H' gr (x.grow gr) r a⟩
end

/-! ### expressions -/
section
variable {X : Cx} {W : WX} {e a b c : Expr} {es : List Expr} {f fa fb : Ev → Rs Dt} {fs : Ev → Rs (List Dt)} {pos : Pos} {ta tb tc : Ev → Rs Bool}
theorem px_var (i : Nat) {x : Str} (hN : X.N[i]? = some x := by rfl) (hv : Vis X.env.scope x := by first | exact Or.inl rfl | exact Or.inr (Or.inl rfl) | exact Or.inr (Or.inr rfl)) (hd : (x == ("__debug__" : Str)) = false := by decide)
    (hcd : (x == ("__classdict__" : Str)) = false := by decide) : PX X W (.Name x pos) (eVar i) := by
  refine ⟨PE.imp (pe_var hN hv hd hcd) fun σ H Q h => ?_⟩
  obtain ⟨B, G, E, x, h⟩ := h
  unfold eVar at h
  split at h
  · rename_i d e
    obtain ⟨F, fp⟩ := x.fp
    obtain ⟨_, v, ev, r⟩ := fp.sl i _ e
    refine ⟨v, ?_, h.ok x.gh v r⟩
    cases q : σ[i]? with
    | none => rw [q] at ev; cases ev
    | some o =>
      rw [q] at ev
      have ev : o = some v := ev
      rw [ev]
  · exact h.elim
theorem px_c {d : Dt} {v : V} (h : PE X e (tC v)) (r : ∀ G, Den X.K G d v) : PX X W e (eC d) :=
  ⟨PE.imp h fun σ H Q ⟨B, G, E, x, h⟩ => h.ok x.gh v (r G)⟩
theorem px_int {i j} : PX X W (.Constant (.int i) j pos) (eC (.int i)) := px_c pe_int fun _ => .int i
theorem px_bl {i j} : PX X W (.Constant (.bool i) j pos) (eC (.bl i)) := px_c pe_bl fun _ => .bl i
theorem px_non {j} : PX X W (.Constant .none j pos) (eC .non) := px_c pe_non fun _ => .non
theorem px_str {x j} (h : PyData.strOk x = true := by rfl) : PX X W (.Constant (.str x) j pos) (eC (.str x)) := px_c pe_str fun _ => .str x h
/-- a module's constant -/
theorem px_glob {x : Str} {d : Dt} {v : V} {u : Value} (hg : Gl X x) (hm : X.mg x = some u) (r : RelV v u) (rd : ∀ G, Den X.K G d v) (hd : (x == ("__debug__" : Str)) = false := by decide) : PX X W (.Name x pos) (eC d) :=
  px_c (pe_glob hg hm r hd) rd
theorem px_globI {x : Str} {i : Int} {t : Tok} (hg : Gl X x) (hm : X.mg x = some (.int i t)) (hd : (x == ("__debug__" : Str)) = false := by decide) : PX X W (.Name x pos) (eC (.int i)) :=
  px_glob (v := .int i) hg hm ⟨t, rfl⟩ (fun _ => .int i) hd
theorem px_globS {x : Str} {i : Str} {t : Tok} (hg : Gl X x) (hm : X.mg x = some (.str i t)) (h : PyData.strOk i = true := by rfl) (hd : (x == ("__debug__" : Str)) = false := by decide) : PX X W (.Name x pos) (eC (.str i)) :=
  px_glob (v := .str i) hg hm ⟨t, rfl⟩ (fun _ => .str i h) hd
/-- a built-in type as a value -/
theorem px_ty {x : Str} {n : String} (hm : X.mg x = none) (hv : bootBuiltins x = some (.type n)) (hg : Gl X x := by rfl) (hn : x ≠ "__name__" := by decide) (hd : (x == ("__debug__" : Str)) = false := by decide) : PX X W (.Name x pos) (eC (.ty n)) :=
  px_c (pe_bltn (v := .ty n) hg hm hv rfl hn hd) fun _ => .ty n
/-- two parts, then an operation by values -/
theorem tOp_of {r : R2} {g : Dt → Dt → Option Dt} (hs : Snd2 X r g) {σ : St} {H : Hp} {Q : VK} (h : XR X W (eOp g fa fb) σ H Q) : tOp r (XR X W fa) (XR X W fb) σ H Q := by
  obtain ⟨B, G, E, x, h⟩ := h
  refine xr_bind x h fun d v G1 H1 g1 x1 r1 h1 => xr_bind x1 h1 fun d2 v2 G2 H2 g2 x2 r2 h2 => ?_
  obtain ⟨z, e, k⟩ := h2.of
  exact hs G2 H2 d d2 z v v2 Q x2.gh (r1.mono g2.g) r2 e fun u G' H' gr rd => k G' H' gr u rd
theorem px_op {op : Operator} {r : R2} {g : Dt → Dt → Option Dt} (ho : OpR X (binaryOp op) r) (hs : Snd2 X r g) (ha : PX X W a fa) (hb : PX X W b fb) : PX X W (.BinOp a op b pos) (eOp g fa fb) :=
  ⟨PE.imp (pe_op ho ha.pe hb.pe) fun _ _ _ h => tOp_of hs h⟩
theorem px_cmp {op : CmpOp} {r : R2} {g : Dt → Dt → Option Dt} (ho : OpR X (compareOp op) r) (hs : Snd2 X r g) (ha : PX X W a fa) (hb : PX X W b fb) (hm : behindInMarks op b = false) : PX X W (.Compare a [op] [b] pos) (eOp g fa fb) :=
  ⟨PE.imp (pe_cmpR ho ha.pe hb.pe hm) fun _ _ _ h => tOp_of hs h⟩
theorem px_ix {r : R2} {g : Dt → Dt → Option Dt} (ho : IxR X r) (hs : Snd2 X r g) (ha : PX X W a fa) (hb : PX X W b fb) (hp : PlainIx b) : PX X W (.Subscript a b pos) (eOp g fa fb) :=
  ⟨PE.imp (pe_ix ho ha.pe hb.pe hp) fun _ _ _ h => tOp_of hs h⟩
theorem px_un {op : UnaryOp} {r : V → Hp → VK → Prop} {g : Dt → Option Dt} (ho : UnR X (unaryOp op) r) (hs : Snd1 X r g) (ha : PX X W a fa) : PX X W (.UnaryOp op a pos) (eUn g fa) := by
  refine ⟨PE.imp (pe_un ho ha.pe) fun σ H Q h => ?_⟩
  obtain ⟨B, G, E, x, h⟩ := h
  refine xr_bind x h fun d v G1 H1 g1 x1 r1 h1 => ?_
  obtain ⟨z, e, k⟩ := h1.of
  exact hs G1 H1 d z v Q x1.gh r1 e fun u G' H' gr rd => k G' H' gr u rd
/-! arguments -/
theorem pax_nil : PAX X W [] eNil := ⟨PA.imp pa_nil fun σ H Q ⟨B, G, E, x, h⟩ => h.ok x.gh [] .nil⟩
theorem pax_cons (ha : PX X W e f) (hr : PAX X W es fs) (hs : starEach (e :: es) X.env = (false, eval e X.env) :: starEach es X.env := by rfl) : PAX X W (e :: es) (eCons f fs) := by
  refine ⟨PA.imp (pa_cons ha.pe hr.pa hs) fun σ H Q h => ?_⟩
  obtain ⟨B, G, E, x, h⟩ := h
  refine xr_bind x h fun d v G1 H1 g1 x1 r1 h1 => ar_bind x1 h1 fun ds vs G2 H2 g2 x2 r2 h2 => ?_
  exact h2.ok x2.gh (v :: vs) (.cons (r1.mono g2.g) r2)
theorem tCB_of {r : List V → Hp → VK → Prop} {g : List Dt → Option Dt} (hs : SndC X r g) {σ : St} {H : Hp} {Q : VK} (h : XR X W (eCB g fs) σ H Q) : tCB r (AR X W fs) σ H Q := by
  obtain ⟨B, G, E, x, h⟩ := h
  refine ar_bind x h fun ds vs G1 H1 g1 x1 r1 h1 => ?_
  obtain ⟨z, e, k⟩ := h1.of
  exact hs G1 H1 ds z vs Q x1.gh r1 e fun u G' H' gr rd => k G' H' gr u rd
theorem px_callB {x : Str} {p : Pos} {id : String} {r : List V → Hp → VK → Prop} {g : List Dt → Option Dt} (hc : CallR X (.builtin id) r) (hs : SndC X r g) (hm : X.mg x = none) (hv : bootBuiltins x = some (.builtin id)) (ha : PAX X W (e :: es) fs) (hg : Gl X x := by rfl) (hn : x ≠ "__name__" := by decide) (hdb : (x == ("__debug__" : Str)) = false := by decide)
    (he : starEach (e :: es) X.env = (false, eval e X.env) :: starEach es X.env := by rfl) (hpl : (backTo pos (starEach es X.env)).any (·.1) = false := by rfl) : PX X W (.Call (.Name x p) (e :: es) [] pos) (eCB g fs) :=
  ⟨PE.imp (pe_callB hc hg hm hv ha.pa hn hdb he hpl) fun _ _ _ h => tCB_of hs h⟩
theorem px_callTy {x : Str} {p : Pos} {T : String} {r : List V → Hp → VK → Prop} {g : List Dt → Option Dt} (hc : CallR X (.type T) r) (hs : SndC X r g) (hm : X.mg x = none) (hv : bootBuiltins x = some (.type T)) (ha : PAX X W (e :: es) fs) (hg : Gl X x := by rfl) (hn : x ≠ "__name__" := by decide) (hdb : (x == ("__debug__" : Str)) = false := by decide)
    (he : starEach (e :: es) X.env = (false, eval e X.env) :: starEach es X.env := by rfl) (hpl : (backTo pos (starEach es X.env)).any (·.1) = false := by rfl) : PX X W (.Call (.Name x p) (e :: es) [] pos) (eCB g fs) :=
  ⟨PE.imp (pe_callTy hc hg hm hv ha.pa hn hdb he hpl) fun _ _ _ h => tCB_of hs h⟩
/-! tests -/
theorem ptx_val (h : PX X W e f) (ht : ∀ t, PE X e t → PT X e (tTest t)) : PTX X W e (bTest f) := by
  refine ⟨PT.imp (ht _ h.pe) fun σ H Q q => ?_⟩
  obtain ⟨B, G, E, x, q⟩ := q
  refine xr_bind x q fun d v G1 H1 g1 x1 r1 h1 => ?_
  cases d with
  | bl k =>
    cases r1
    exact ⟨k, rfl, h1.ok x1.gh⟩
  | _ => exact h1.elim
theorem ptx_not (h : PTX X W e ta) : PTX X W (.UnaryOp .Not e pos) (bNot ta) := by
  refine ⟨PT.imp (pt_not h.pt) fun σ H Q q => ?_⟩
  obtain ⟨B, G, E, x, q⟩ := q
  exact tr_bind x q fun b G1 H1 g1 x1 h1 => h1.ok x1.gh
theorem px_ifExp (hc : PTX X W c tc) (ha : PX X W a fa) (hb : PX X W b fb) : PX X W (.IfExp c a b pos) (eIf tc fa fb) := by
  refine ⟨PE.imp (pe_ifExp hc.pt ha.pe hb.pe) fun σ H Q q => ?_⟩
  obtain ⟨B, G, E, x, q⟩ := q
  refine tr_bind x q fun b G1 H1 g1 x1 h1 => ?_
  cases b with
  | true => exact ⟨B, G1, E, x1, h1⟩
  | false => exact ⟨B, G1, E, x1, h1⟩
end
end PL
/-! The plain layer: tests, chains, displays, operations by values. -/
namespace PL
open PySem L2
open PyProof.Rows hiding St

/-! ### and, or, chains -/
def eAnd (a b : Ev → Rs Dt) (E : Ev) : Rs Dt := (a E).bind fun d => match d with
  | .bl true => b E
  | .bl false => .ok (.bl false)
  | _ => .bad
def eOr (a b : Ev → Rs Dt) (E : Ev) : Rs Dt := (a E).bind fun d => match d with
  | .bl true => .ok (.bl true)
  | .bl false => b E
  | _ => .bad
def eNot (a : Ev → Rs Dt) (E : Ev) : Rs Dt := (a E).bind fun d => match d with
  | .bl b => .ok (.bl (!b))
  | _ => .bad
/-- a chain's links by the left value -/
def cOne (g : Dt → Dt → Option Dt) (b : Ev → Rs Dt) (x : Dt) (E : Ev) : Rs Bool := (b E).bind fun y => (Rs.of (g x y)).bind fun d => match d with
  | .bl k => .ok k
  | _ => .bad
def cCons (g : Dt → Dt → Option Dt) (b : Ev → Rs Dt) (r : Dt → Ev → Rs Bool) (x : Dt) (E : Ev) : Rs Bool := (b E).bind fun y => (Rs.of (g x y)).bind fun d => match d with
  | .bl true => r y E
  | .bl false => .ok false
  | _ => .bad
def bCh (a : Ev → Rs Dt) (r : Dt → Ev → Rs Bool) (E : Ev) : Rs Bool := (a E).bind fun x => r x E

section
variable {X : Cx} {W : WX} {e a b c : Expr} {es rest : List Expr} {f fa fb : Ev → Rs Dt} {fs : Ev → Rs (List Dt)} {pos : Pos} {ta tb tc : Ev → Rs Bool}
theorem px_one {op} (h : PX X W a f) : PX X W (.BoolOp op [a] pos) f := ⟨pe_one h.pe⟩
theorem px_and (ha : PX X W a fa) (hb : PX X W (.BoolOp .And (b :: rest) pos) fb) : PX X W (.BoolOp .And (a :: b :: rest) pos) (eAnd fa fb) := by
  refine ⟨PE.imp (pe_and ha.pe hb.pe) fun σ H Q h => ?_⟩
  obtain ⟨B, G, E, x, h⟩ := h
  refine xr_bind x h fun d v G1 H1 g1 x1 r1 h1 => ?_
  cases d with
  | bl k =>
    cases r1
    refine ⟨k, rfl, ?_⟩
    cases k with
    | true => exact ⟨B, G1, E, x1, h1⟩
    | false => exact h1.ok x1.gh _ (.bl false)
  | _ => exact h1.elim
theorem px_or (ha : PX X W a fa) (hb : PX X W (.BoolOp .Or (b :: rest) pos) fb) : PX X W (.BoolOp .Or (a :: b :: rest) pos) (eOr fa fb) := by
  refine ⟨PE.imp (pe_or ha.pe hb.pe) fun σ H Q h => ?_⟩
  obtain ⟨B, G, E, x, h⟩ := h
  refine xr_bind x h fun d v G1 H1 g1 x1 r1 h1 => ?_
  cases d with
  | bl k =>
    cases r1
    refine ⟨k, rfl, ?_⟩
    cases k with
    | true => exact h1.ok x1.gh _ (.bl true)
    | false => exact ⟨B, G1, E, x1, h1⟩
  | _ => exact h1.elim
theorem px_not (ha : PX X W a fa) : PX X W (.UnaryOp .Not a pos) (eNot fa) := by
  refine ⟨PE.imp (pe_not ha.pe) fun σ H Q h => ?_⟩
  obtain ⟨B, G, E, x, h⟩ := h
  refine xr_bind x h fun d v G1 H1 g1 x1 r1 h1 => ?_
  cases d with
  | bl k =>
    cases r1
    exact ⟨k, rfl, h1.ok x1.gh _ (.bl (!k))⟩
  | _ => exact h1.elim
structure PWX (X : Cx) (W : WX) (e : Expr) (f : Ev → Rs Bool) : Prop where
  pw : PW X e (TR X W f)
theorem PW.imp {X : Cx} {e : Expr} {t t' : TT} (h : PW X e t) (w : ∀ σ H Q, t' σ H Q → t σ H Q) : PW X e t' := ⟨fun wh pins s σ H Q I q => h.run wh pins s σ H Q I (w σ H Q q)⟩
theorem ptx_w (h : PWX X W e ta) : PTX X W e ta := ⟨h.pw.pt⟩
theorem pwx_and1 (h : PTX X W a ta) : PWX X W (.BoolOp .And [a] pos) ta := ⟨pw_and1 h.pt⟩
theorem pwx_or1 (h : PTX X W a ta) : PWX X W (.BoolOp .Or [a] pos) ta := ⟨pw_or1 h.pt⟩
theorem pwx_and (h : PTX X W a ta) (hb : PWX X W (.BoolOp .And (b :: rest) pos) tb) : PWX X W (.BoolOp .And (a :: b :: rest) pos) (bAnd ta tb) := by
  refine ⟨PW.imp (pw_and h.pt hb.pw) fun σ H Q h => ?_⟩
  obtain ⟨B, G, E, x, h⟩ := h
  refine tr_bind x h fun k G1 H1 g1 x1 h1 => ?_
  cases k with
  | true => exact ⟨B, G1, E, x1, h1⟩
  | false => exact h1.ok x1.gh
theorem pwx_or (h : PTX X W a ta) (hb : PWX X W (.BoolOp .Or (b :: rest) pos) tb) : PWX X W (.BoolOp .Or (a :: b :: rest) pos) (bOr ta tb) := by
  refine ⟨PW.imp (pw_or h.pt hb.pw) fun σ H Q h => ?_⟩
  obtain ⟨B, G, E, x, h⟩ := h
  refine tr_bind x h fun k G1 H1 g1 x1 h1 => ?_
  cases k with
  | true => exact h1.ok x1.gh
  | false => exact ⟨B, G1, E, x1, h1⟩
theorem xr_test {σ : St} {H : Hp} {Q : Bool → Hp → Prop} (q : TR X W (bTest f) σ H Q) : XR X W f σ H fun x H' => ∃ k, x = .bl k ∧ Q k H' := by
  obtain ⟨B, G, E, x, q⟩ := q
  refine xr_bind x q fun d v G1 H1 g1 x1 r1 h1 => ?_
  cases d with
  | bl k =>
    cases r1
    exact ⟨k, rfl, h1.ok x1.gh⟩
  | _ => exact h1.elim
theorem ptx_cmp {op : CmpOp} {r : R2} {g : Dt → Dt → Option Dt} (ho : OpR X (compareOp op) r) (hs : Snd2 X r g) (ha : PX X W a fa) (hb : PX X W b fb) (hm : behindInMarks op b = false) : PTX X W (.Compare a [op] [b] pos) (bTest (eOp g fa fb)) :=
  ⟨PT.imp (pt_cmpR ho ha.pe hb.pe hm) fun σ H Q h => tOp_of hs (xr_test h)⟩
/-- any expression whose value is a bool -/
theorem ptx_v (h : PX X W e f) (he : ∀ whole, isTrue e X.env whole = (do let v ← whole; standAt e.pos; holding [v] (truthy v)) := by intro _; rfl) : PTX X W e (bTest f) := ptx_val h fun t ht => pt_val ht he
/-- the links of a chain behind a value -/
structure PCh (X : Cx) (W : WX) (ops : List CmpOp) (es : List Expr) (f : Dt → Ev → Rs Bool) : Prop where
  v : ∀ (pos : Pos) (pins : List (Addr × Obj)) (s : Shared) (σ : St) (H B G : Hp) (E : Ev) (d : Dt) (x : V) (u : Value) (Q : VK), Inv X pins σ H s → RelV x u → EnvOk X.fx B G H E σ → Den X.K G d x →
    After X W σ G H (f d E) (fun b _ H' => Q (.bl b) H') → wpAny (model X.prog X.w) X.A (compareChain pos u ops (evalEach es X.env)) (EP X pins σ Q) X.xe s
  t : ∀ (pos : Pos) (pins : List (Addr × Obj)) (s : Shared) (σ : St) (H B G : Hp) (E : Ev) (d : Dt) (x : V) (u : Value) (Q : Bool → Hp → Prop), Inv X pins σ H s → RelV x u → EnvOk X.fx B G H E σ → Den X.K G d x →
    After X W σ G H (f d E) (fun b _ H' => Q b H') → wpAny (model X.prog X.w) X.A (testChain pos u ops (evalEach es X.env)) (TP X pins σ Q) X.xe s
theorem link_of {op : CmpOp} {r : R2} {g : Dt → Dt → Option Dt} (ho : OpR X (compareOp op) r) (hs : Snd2 X r g) (hb : PX X W b fb) {pins : List (Addr × Obj)} {s : Shared} {σ : St} {H B G : Hp} {E : Ev} {d : Dt} {x : V} {u : Value} {k : Bool → Hp → Hp → Prop}
    {h : Dt → Bool → Rs Bool} (I : Inv X pins σ H s) (rx : RelV x u) (xe : EnvOk X.fx B G H E σ) (rd : Den X.K G d x)
    (q : After X W σ G H ((fb E).bind fun y => (Rs.of (g d y)).bind fun z => match z with | .bl k => h y k | _ => .bad) k) {Qf : Value → Value → Shared → Prop}
    (hq : ∀ y z w b c G' H' s', Gr G H G' H' → Inv X pins σ H' s' → RelV z w → EnvOk X.fx B G' H' E σ → Den X.K G' y z → c = Value.bool b → After X W σ G' H' (h y b) k → Qf w c s') :
    wpAny (model X.prog X.w) X.A (eval b X.env) (fun w s₁ => wpAny (model X.prog X.w) X.A (compareOp op u w) (fun c s₂ => Qf w c s₂) X.xe s₁) X.xe s := by
  refine thn (hb.pe.run pins s σ H (fun z H' => ∃ G' y, Gr G H G' H' ∧ EnvOk X.fx B G' H' E σ ∧ Den X.K G' y z ∧ After X W σ G' H' ((Rs.of (g d y)).bind fun z => match z with | .bl k => h y k | _ => .bad) k) I
    (xr_bind xe q fun y v G1 H1 g1 x1 r1 h1 => ⟨G1, y, g1, x1, r1, h1⟩)) fun w s1 ⟨z, H1, I1, rz, G1, y, g1, x1, r1, h1⟩ => ?_
  obtain ⟨dd, e, k1⟩ := h1.bind.of
  have k1 := k1 G1 H1 (.refl x1.gh)
  cases dd with
  | bl bb =>
    refine thn (ho pins s1 σ H1 x z u w (fun c H' => ∃ G', Gr G1 H1 G' H' ∧ c = .bl bb) I1 rx rz (hs G1 H1 d y _ x z _ x1.gh (rd.mono g1.g) r1 e fun c G' H' gr rc => ?_)) fun c s2 ⟨cv, H2, I2, rc, G2, g2, ec⟩ => ?_
    · cases rc
      exact ⟨G', gr, rfl⟩
    · subst ec
      exact hq y z w bb c G2 H2 s2 (g1.trans g2) I2 rz (x1.grow g2) (r1.mono g2.g) rc (After.grow g2 k1)
  | _ => exact k1.elim
theorem pch_one {op : CmpOp} {r : R2} {g : Dt → Dt → Option Dt} (ho : OpR X (compareOp op) r) (hs : Snd2 X r g) (hb : PX X W b fb) : PCh X W [op] [b] (cOne g fb) where
  v := fun pos pins s σ H B G E d x u Q I rx xe rd q => chain_last (link_of (h := fun _ k => .ok k) ho hs hb I rx xe rd q fun y z w b c G' H' s' gr I' rz xe' r' ec a => by
    subst ec
    exact ⟨.bl b, H', I', rfl, a.ok xe'.gh⟩)
  t := fun pos pins s σ H B G E d x u Q I rx xe rd q => test_last (link_of (h := fun _ k => .ok k) ho hs hb I rx xe rd q fun y z w b c G' H' s' gr I' rz xe' r' ec a => by
    subst ec
    exact wpAny_truthy_bool ⟨H', I', a.ok xe'.gh⟩)
theorem cCons_eq {g : Dt → Dt → Option Dt} {b : Ev → Rs Dt} {r : Dt → Ev → Rs Bool} {x : Dt} {E : Ev} : cCons g b r x E = (b E).bind fun y => (Rs.of (g x y)).bind fun d => match d with
    | .bl k => if k = true then r y E else .ok false
    | _ => .bad := by
  unfold cCons
  congr 1
  funext y
  congr 1
  funext d
  cases d with
  | bl k => cases k <;> rfl
  | _ => rfl
theorem pch_cons {op op' : CmpOp} {ops : List CmpOp} {r : R2} {g : Dt → Dt → Option Dt} {fr : Dt → Ev → Rs Bool} (ho : OpR X (compareOp op) r) (hs : Snd2 X r g) (hb : PX X W b fb) (hr : PCh X W (op' :: ops) (c :: es) fr) :
    PCh X W (op :: op' :: ops) (b :: c :: es) (cCons g fb fr) where
  v := fun pos pins s σ H B G E d x u Q I rx xe rd q => by
    rw [cCons_eq] at q
    refine chain_link (link_of (h := fun y k => if k = true then fr y E else .ok false) ho hs hb I rx xe rd q fun y z w b c G' H' s' gr I' rz xe' r' ec a => ?_)
    subst ec
    refine wpAny_truthy_bool ?_
    cases b with
    | true => exact ite_tt (hr.v pos pins s' σ H' B G' E y z w Q I' rz xe' r' a)
    | false => exact ite_ff ⟨.bl false, H', I', rfl, a.ok xe'.gh⟩
  t := fun pos pins s σ H B G E d x u Q I rx xe rd q => by
    rw [cCons_eq] at q
    refine test_link (link_of (h := fun y k => if k = true then fr y E else .ok false) ho hs hb I rx xe rd q fun y z w b c G' H' s' gr I' rz xe' r' ec a => ?_)
    subst ec
    refine wpAny_truthy_bool ?_
    cases b with
    | true => exact ite_tt (hr.t pos pins s' σ H' B G' E y z w Q I' rz xe' r' a)
    | false => exact ite_ff ⟨H', I', a.ok xe'.gh⟩
theorem px_ch {o1 o2 : CmpOp} {os : List CmpOp} {e1 e2 : Expr} {fr : Dt → Ev → Rs Bool} (ha : PX X W a fa) (hr : PCh X W (o1 :: o2 :: os) (e1 :: e2 :: es) fr) (hm : lastMarks (o1 :: o2 :: os) (e1 :: e2 :: es) = false := by with_unfolding_all rfl) :
    PX X W (.Compare a (o1 :: o2 :: os) (e1 :: e2 :: es) pos) (eBool (bCh fa fr)) := by
  refine ⟨⟨fun pins s σ H Q I h => ?_⟩⟩
  obtain ⟨B, G, E, x, h⟩ := h
  refine Compare_chain (thn (ha.pe.run pins s σ H (fun z H' => ∃ G' y, Gr G H G' H' ∧ EnvOk X.fx B G' H' E σ ∧ Den X.K G' y z ∧ After X W σ G' H' (fr y E) fun b _ H' => Q (.bl b) H') I ?_) fun u s1 ⟨z, H1, I1, rz, G1, y, g1, x1, r1, h1⟩ => hr.v pos pins s1 σ H1 B G1 E y z u Q I1 rz x1 r1 h1) hm
  have h2 : After X W σ G H ((fa E).bind fun x => fr x E) fun b _ H' => Q (.bl b) H' := h.bind.imp fun b G' H' gr k => k.ok gr.gh _ (.bl b)
  exact xr_bind x h2 fun y v G1 H1 g1 x1 r1 h1 => ⟨G1, y, g1, x1, r1, h1⟩
theorem ptx_ch {o1 o2 : CmpOp} {os : List CmpOp} {e1 e2 : Expr} {fr : Dt → Ev → Rs Bool} (ha : PX X W a fa) (hr : PCh X W (o1 :: o2 :: os) (e1 :: e2 :: es) fr) (hm : lastMarks (o1 :: o2 :: os) (e1 :: e2 :: es) = false := by with_unfolding_all rfl) :
    PTX X W (.Compare a (o1 :: o2 :: os) (e1 :: e2 :: es) pos) (bCh fa fr) := by
  refine ⟨⟨fun pins s σ H Q I h => ?_⟩⟩
  obtain ⟨B, G, E, x, h⟩ := h
  refine isTrue_chain (thn (ha.pe.run pins s σ H (fun z H' => ∃ G' y, Gr G H G' H' ∧ EnvOk X.fx B G' H' E σ ∧ Den X.K G' y z ∧ After X W σ G' H' (fr y E) fun b _ H' => Q b H') I ?_) fun u s1 ⟨z, H1, I1, rz, G1, y, g1, x1, r1, h1⟩ => hr.t pos pins s1 σ H1 B G1 E y z u Q I1 rz x1 r1 h1) hm
  exact xr_bind x h fun y v G1 H1 g1 x1 r1 h1 => ⟨G1, y, g1, x1, r1, h1⟩
end
end PL
/-! The plain layer: operations by values. -/
namespace PL
open PySem L2
open PyProof.Rows hiding St

/-! ### ints -/
def gI (f : Int → Int → Dt) : Dt → Dt → Option Dt
  | .int i, .int j => some (f i j)
  | _, _ => none
def gIc (c : Int → Int → Bool) (f : Int → Int → Dt) : Dt → Dt → Option Dt
  | .int i, .int j => if c i j = true then some (f i j) else none
  | _, _ => none
def small (x : Int) : Bool := decide (-(2 ^ 64) < x) && decide (x < 2 ^ 64)
def cMul (i j : Int) : Bool := small i || small j
def cDiv (_ j : Int) : Bool := decide (0 < j) && decide (j < 2 ^ 200)
def cMod (_ j : Int) : Bool := decide (0 < j)
def cPow (i j : Int) : Bool := decide (0 ≤ j) && (decide (j ≤ 1000) && small i)
theorem small_of {x : Int} (h : small x = true) : -(2 ^ 64) < x ∧ x < 2 ^ 64 := by
  unfold small at h
  rw [Bool.and_eq_true] at h
  exact ⟨of_decide_eq_true h.1, of_decide_eq_true h.2⟩
section
variable {X : Cx}
theorem den_int {G : Hp} {K : PySem.W.Frag} {d : Dt} {v : V} (h : Den K G d v) {i : Int} (e : d = .int i) : v = .int i := by
  subst e
  cases h
  rfl
theorem snd_I0 {gv : Int → Int → V} {gd : Int → Int → Dt} (h : ∀ G i j, Den X.K G (gd i j) (gv i j)) : Snd2 X (rI0 gv) (gI gd) := by
  intro G H x y d v w Q s r1 r2 e q
  cases x <;> cases y <;> first | (cases e; done) | skip
  cases e
  cases r1
  cases r2
  exact ⟨_, _, rfl, rfl, q _ G H (.refl s) (h G _ _)⟩
theorem snd_Ic {C : Int → Int → Prop} {c : Int → Int → Bool} {gv : Int → Int → V} {gd : Int → Int → Dt} (hc : ∀ i j, c i j = true → C i j) (h : ∀ G i j, Den X.K G (gd i j) (gv i j)) : Snd2 X (rI C gv) (gIc c gd) := by
  intro G H x y d v w Q s r1 r2 e q
  cases x <;> cases y <;> first | (cases e; done) | skip
  rename_i i j
  have e : (if c i j = true then some (gd i j) else none) = some d := e
  by_cases hij : c i j = true
  · rw [if_pos hij] at e
    cases e
    cases r1
    cases r2
    exact ⟨_, _, rfl, rfl, hc _ _ hij, q _ G H (.refl s) (h G _ _)⟩
  · rw [if_neg hij] at e
    cases e
theorem Snd2.or {r r' : R2} {g g' : Dt → Dt → Option Dt} (h : Snd2 X r g) (h' : Snd2 X r' g') : Snd2 X (fun x y H Q => r x y H Q ∨ r' x y H Q) (fun x y => (g x y).or (g' x y)) := by
  intro G H x y d v w Q s r1 r2 e q
  cases e1 : g x y with
  | some z =>
    simp only [e1, Option.some_or] at e
    exact .inl (h G H x y d v w Q s r1 r2 (e1.trans e) q)
  | none =>
    simp only [e1, Option.none_or] at e
    exact .inr (h' G H x y d v w Q s r1 r2 e q)
theorem SndC.or {r r' : List V → Hp → VK → Prop} {g g' : List Dt → Option Dt} (h : SndC X r g) (h' : SndC X r' g') : SndC X (fun x H Q => r x H Q ∨ r' x H Q) (fun x => (g x).or (g' x)) := by
  intro G H x d v Q s r1 e q
  cases e1 : g x with
  | some z =>
    simp only [e1, Option.some_or] at e
    exact .inl (h G H x d v Q s r1 (e1.trans e) q)
  | none =>
    simp only [e1, Option.none_or] at e
    exact .inr (h' G H x d v Q s r1 e q)
theorem Snd2.imp {r : R2} {g g' : Dt → Dt → Option Dt} (h : Snd2 X r g) (w : ∀ x y d, g' x y = some d → g x y = some d) : Snd2 X r g' := fun G H x y d v w' Q s r1 r2 e q => h G H x y d v w' Q s r1 r2 (w x y d e) q
/-! ### + -/
def gAdd : Dt → Dt → Option Dt
  | .int i, .int j => some (.int (i + j))
  | .str x, .str y => if x.length + y.length ≤ 1000000 then some (.str (x ++ y)) else none
  | .lst a, .lst b => if a.length + b.length ≤ 1000000 then some (.lst (a ++ b)) else none
  | .tup a, .tup b => if a ≠ [] ∧ b ≠ [] ∧ a.length + b.length ≤ 1000000 then some (.tup (a ++ b)) else none
  | _, _ => none
abbrev rAddX (K : PySem.W.Frag) : R2 := fun x y H Q => ((rI0 (fun i j => .int (i + j)) x y H Q ∨ (∃ i j, x = .str i ∧ y = .str j ∧ i.length + j.length ≤ sizeLine ∧ Q (.str (i ++ j)) H)) ∨ rCat x y H Q) ∨ rCatT K x y H Q
theorem op_addX : OpR X (binaryOp .Add) (rAddX X.K) := ((op_add.or op_add_str).or op_cat).or op_catT
theorem line_ge {n : Nat} (h : n ≤ 1000000) : n ≤ sizeLine := Nat.le_trans h (by decide)
theorem strOk_app {x y : Str} (hx : PyData.strOk x = true) (hy : PyData.strOk y = true) : PyData.strOk (x ++ y) = true := by
  unfold PyData.strOk at *
  rw [Array.all_eq_true_iff_forall_mem] at *
  intro c hc
  have e : (x ++ y).cps = x.cps ++ y.cps := rfl
  rw [e, Array.mem_append] at hc
  rcases hc with h | h
  · exact hx c h
  · exact hy c h
theorem snd_add : Snd2 X (rAddX X.K) gAdd := by
  intro G H x y d v w Q s r1 r2 e q
  cases x <;> cases y <;> first | (cases e; done) | skip
  · cases e
    cases r1
    cases r2
    exact .inl (.inl (.inl ⟨_, _, rfl, rfl, q _ G H (.refl s) (.int _)⟩))
  · rename_i a b
    have e : (if a.length + b.length ≤ 1000000 then some (Dt.str (a ++ b)) else none) = some d := e
    by_cases h : a.length + b.length ≤ 1000000
    · rw [if_pos h] at e
      cases e
      cases r1 with
      | str _ h1 =>
        cases r2 with
        | str _ h2 => exact .inl (.inl (.inr ⟨_, _, rfl, rfl, line_ge h, q _ G H (.refl s) (.str _ (strOk_app h1 h2))⟩))
    · rw [if_neg h] at e
      cases e
  · rename_i a b
    have e : (if a.length + b.length ≤ 1000000 then some (Dt.lst (a ++ b)) else none) = some d := e
    by_cases h : a.length + b.length ≤ 1000000
    · rw [if_pos h] at e
      cases e
      cases r1 with
      | lst g1 l1 =>
        cases r2 with
        | lst g2 l2 =>
          refine .inl (.inr ⟨_, _, _, _, rfl, rfl, s _ _ g1, s _ _ g2, ?_, fun p n => q _ _ _ (Gr.new s n) (.lst upd_same ((l1.append l2).mono (Gr.new (o := .lst _) s n).g))⟩)
          rw [← l1.length, ← l2.length]
          exact line_ge h
    · rw [if_neg h] at e
      cases e
  · rename_i a b
    have e : (if a ≠ [] ∧ b ≠ [] ∧ a.length + b.length ≤ 1000000 then some (Dt.tup (a ++ b)) else none) = some d := e
    by_cases h : a ≠ [] ∧ b ≠ [] ∧ a.length + b.length ≤ 1000000
    · rw [if_pos h] at e
      cases e
      obtain ⟨h1, h2, h⟩ := h
      cases r1 with
      | tup g1 l1 =>
        cases r2 with
        | tup g2 l2 =>
          refine .inr ⟨_, _, _, _, rfl, rfl, .of (s _ _ g1), .of (s _ _ g2), ?_, ?_, fun z => ?_, fun z p n => q _ _ _ (Gr.new s n) (.tup upd_same ((l1.append l2).mono (Gr.new (o := .tup _) s n).g))⟩
          · intro z
            subst z
            cases l1
            exact h1 rfl
          · rw [← l1.length, ← l2.length]
            exact line_ge h
          · subst z
            cases l2
            exact absurd rfl h2
    · rw [if_neg h] at e
      cases e
/-! ### == of data -/
mutual
def toPy : Dt → PyData
  | .non => .none
  | .bl b => .bool b
  | .int i => .int i
  | .str x => .str x
  | .lst l => .list (toPyL l)
  | .tup l => .tuple (toPyL l)
  | .scr l => .list (l.map PyData.int)
  | .ty _ => .none
def toPyL : List Dt → List PyData
  | [] => []
  | d :: ds => toPy d :: toPyL ds
end
mutual
/-- what may be compared: no type; nothing deep -/
def cmpOk : Nat → Dt → Bool
  | _, .non => true
  | _, .bl _ => true
  | _, .int _ => true
  | _, .str _ => true
  | 0, .lst _ => false
  | n + 1, .lst l => cmpOkL n l
  | 0, .tup _ => false
  | n + 1, .tup l => cmpOkL n l
  | _, .scr _ => false
  | _, .ty _ => false
def cmpOkL : Nat → List Dt → Bool
  | _, [] => true
  | n, d :: ds => cmpOk n d && cmpOkL n ds
end
mutual
theorem dp_of {K : PySem.W.Frag} {H : Hp} : ∀ {n : Nat} {d : Dt} {v : V}, Den K H d v → cmpOk n d = true → Dp K H v (toPy d) ∧ (toPy d).canLay0 = true ∧ (toPy d).depth ≤ n
  | n, .non, _, .non, _ => ⟨.non, by simp [toPy, PyData.canLay0], by simp [toPy, PyData.depth]⟩
  | n, .bl b, _, .bl _, _ => ⟨.bl b, by simp [toPy, PyData.canLay0], by simp [toPy, PyData.depth]⟩
  | n, .int i, _, .int _, _ => ⟨.int i, by simp [toPy, PyData.canLay0], by simp [toPy, PyData.depth]⟩
  | n, .str x, _, .str _ hx, _ => ⟨.str x, by simp [toPy, PyData.canLay0, hx], by simp [toPy, PyData.depth]⟩
  | n + 1, .lst l, _, .lst g r, c => by
    obtain ⟨h1, h2, h3⟩ := dpL_of (n := n) r (by simpa [cmpOk] using c)
    exact ⟨.lst (.of g) h1, by simpa [toPy, PyData.canLay0] using h2, by simpa [toPy, PyData.depth] using h3⟩
  | n + 1, .tup l, _, .tup g r, c => by
    obtain ⟨h1, h2, h3⟩ := dpL_of (n := n) r (by simpa [cmpOk] using c)
    exact ⟨.tup (.of g) h1, by simpa [toPy, PyData.canLay0] using h2, by simpa [toPy, PyData.depth] using h3⟩
  | 0, .lst l, _, .lst g r, c => by simp [cmpOk] at c
  | 0, .tup l, _, .tup g r, c => by simp [cmpOk] at c
  | n, .scr l, _, .scr _, c => by cases n <;> simp [cmpOk] at c
  | n, .ty l, _, .ty _, c => by cases n <;> simp [cmpOk] at c
theorem dpL_of {K : PySem.W.Frag} {H : Hp} : ∀ {n : Nat} {ds : List Dt} {vs : List V}, DenL K H ds vs → cmpOkL n ds = true → DpAll K H vs (toPyL ds) ∧ PyData.canLayAll0 (toPyL ds) = true ∧ PyData.depthAll (toPyL ds) ≤ n
  | n, [], _, .nil, _ => ⟨.nil, by simp [toPyL, PyData.canLayAll0], by simp [toPyL, PyData.depthAll]⟩
  | n, d :: ds, _, .cons r rs, c => by
    have c : cmpOk n d = true ∧ cmpOkL n ds = true := by simpa [cmpOkL] using c
    obtain ⟨h1, h2, h3⟩ := dp_of r c.1
    obtain ⟨k1, k2, k3⟩ := dpL_of rs c.2
    refine ⟨.cons h1 k1, by simp [toPyL, PyData.canLayAll0, h2, k2], ?_⟩
    simp only [toPyL, PyData.depthAll]
    omega
end
theorem shaped_of {d : PyData} (h : d.canLay0 = true) (h2 : d.depth ≤ 60) : SeqAt.shaped d = true := by
  unfold SeqAt.shaped
  rw [h, Bool.true_and]
  exact decide_eq_true (Nat.le_trans h2 (by decide))
def eqb (x y : Dt) : Bool := PyData.eqv (toPy x) (toPy y)
def gEq (x y : Dt) : Option Dt := if cmpOk 60 x = true ∧ cmpOk 60 y = true then some (.bl (eqb x y)) else none
def gNe (x y : Dt) : Option Dt := if cmpOk 60 x = true ∧ cmpOk 60 y = true then some (.bl (!eqb x y)) else none
theorem snd_eq : Snd2 X (rEqD X.K) gEq := by
  intro G H x y d v w Q s r1 r2 e q
  unfold gEq at e
  by_cases h : cmpOk 60 x = true ∧ cmpOk 60 y = true
  · rw [if_pos h] at e
    cases e
    obtain ⟨a1, a2, a3⟩ := dp_of (r1.mono s) h.1
    obtain ⟨b1, b2, b3⟩ := dp_of (r2.mono s) h.2
    exact ⟨_, _, a1, b1, shaped_of a2 a3, shaped_of b2 b3, q _ G H (.refl s) (.bl _)⟩
  · rw [if_neg h] at e
    cases e
theorem snd_ne : Snd2 X (rNeD X.K) gNe := by
  intro G H x y d v w Q s r1 r2 e q
  unfold gNe at e
  by_cases h : cmpOk 60 x = true ∧ cmpOk 60 y = true
  · rw [if_pos h] at e
    cases e
    obtain ⟨a1, a2, a3⟩ := dp_of (r1.mono s) h.1
    obtain ⟨b1, b2, b3⟩ := dp_of (r2.mono s) h.2
    exact ⟨_, _, a1, b1, shaped_of a2 a3, shaped_of b2 b3, q _ G H (.refl s) (.bl _)⟩
  · rw [if_neg h] at e
    cases e
/-! in a list of data -/
def inb (x : Dt) (l : List Dt) : Bool := l.any fun z => eqb z x
def gIn (neg : Bool) : Dt → Dt → Option Dt
  | x, .lst l => if cmpOk 60 x = true ∧ cmpOkL 59 l = true then some (.bl (if neg then !inb x l else inb x l)) else none
  | .str x, .str y => some (.bl (if neg then !(!(Builtin.Str.occurrences y x 0 y.length 1).isEmpty) else !(Builtin.Str.occurrences y x 0 y.length 1).isEmpty))
  | _, _ => none
theorem any_toPy (x : Dt) : ∀ l : List Dt, ((toPyL l).any fun z => PyData.eqv z (toPy x)) = inb x l
  | [] => rfl
  | d :: l => by
    simp only [toPyL, List.any_cons, inb]
    rw [any_toPy x l]
    rfl
abbrev rInX (K : PySem.W.Frag) : R2 := fun x y H Q => rInD K x y H Q ∨ (∃ i j, x = .str i ∧ y = .str j ∧ Q (.bl (!(Builtin.Str.occurrences j i 0 j.length 1).isEmpty)) H)
abbrev rNotInX (K : PySem.W.Frag) : R2 := fun x y H Q => rNotInD K x y H Q ∨ (∃ i j, x = .str i ∧ y = .str j ∧ Q (.bl (!(!(Builtin.Str.occurrences j i 0 j.length 1).isEmpty))) H)
theorem op_inX (hu : X.A.units + 65 < cLine) : OpR X (compareOp .In) (rInX X.K) := (op_inD hu).or op_in_str
theorem op_notInX (hu : X.A.units + 65 < cLine) : OpR X (compareOp .NotIn) (rNotInX X.K) := (op_notInD hu).or op_notin_str
theorem inD_parts {G H : Hp} {x : Dt} {l : List Dt} {v w : V} (s : Same G H) (r1 : Den X.K G x v) (r2 : Den X.K G (.lst l) w) (h : cmpOk 60 x = true ∧ cmpOkL 59 l = true) :
    Dp X.K H v (toPy x) ∧ Dp X.K H w (.list (toPyL l)) ∧ SeqAt.shaped (toPy x) = true ∧ SeqAt.shaped (.list (toPyL l)) = true := by
  obtain ⟨a1, a2, a3⟩ := dp_of (r1.mono s) h.1
  obtain ⟨b1, b2, b3⟩ := dp_of (n := 60) (r2.mono s) (by simpa [cmpOk] using h.2)
  have e : toPy (.lst l) = .list (toPyL l) := by simp [toPy]
  rw [e] at b1 b2 b3
  exact ⟨a1, b1, shaped_of a2 a3, shaped_of b2 b3⟩
theorem gIn_lst {neg : Bool} {x : Dt} {l : List Dt} : gIn neg x (.lst l) = if cmpOk 60 x = true ∧ cmpOkL 59 l = true then some (.bl (if neg then !inb x l else inb x l)) else none := by
  cases x <;> rfl
theorem snd_in : Snd2 X (rInX X.K) (gIn false) := by
  intro G H x y d v w Q s r1 r2 e q
  cases y with
  | lst l =>
    rw [gIn_lst] at e
    by_cases h : cmpOk 60 x = true ∧ cmpOkL 59 l = true
    · rw [if_pos h] at e
      cases e
      obtain ⟨a, b, c, dd⟩ := inD_parts s r1 r2 h
      refine .inl ⟨_, _, a, b, c, dd, ?_⟩
      rw [any_toPy]
      exact q _ G H (.refl s) (.bl _)
    · rw [if_neg h] at e
      cases e
  | str b =>
    cases x with
    | str a =>
      cases e
      cases r1
      cases r2
      exact .inr ⟨_, _, rfl, rfl, q _ G H (.refl s) (.bl _)⟩
    | _ => cases e
  | _ => cases x <;> cases e
theorem snd_notIn : Snd2 X (rNotInX X.K) (gIn true) := by
  intro G H x y d v w Q s r1 r2 e q
  cases y with
  | lst l =>
    rw [gIn_lst] at e
    by_cases h : cmpOk 60 x = true ∧ cmpOkL 59 l = true
    · rw [if_pos h] at e
      cases e
      obtain ⟨a, b, c, dd⟩ := inD_parts s r1 r2 h
      refine .inl ⟨_, _, a, b, c, dd, ?_⟩
      rw [any_toPy]
      exact q _ G H (.refl s) (.bl _)
    · rw [if_neg h] at e
      cases e
  | str b =>
    cases x with
    | str a =>
      cases e
      cases r1
      cases r2
      exact .inr ⟨_, _, rfl, rfl, q _ G H (.refl s) (.bl _)⟩
    | _ => cases e
  | _ => cases x <;> cases e
/-! None -/
def isNon : Dt → Bool
  | .non => true
  | _ => false
def gIs : Dt → Dt → Option Dt
  | x, .non => some (.bl (isNon x))
  | _, _ => none
def gIsNot : Dt → Dt → Option Dt
  | x, .non => some (.bl (!isNon x))
  | _, _ => none
theorem non_dec {G : Hp} {x : Dt} {v : V} (r : Den X.K G x v) : decide (v = .non) = isNon x := by
  cases r <;> simp [isNon]
theorem snd_is : Snd2 X (fun x y H Q => y = .non ∧ Q (.bl (decide (x = .non))) H) gIs := by
  intro G H x y d v w Q s r1 r2 e q
  cases y <;> first | (cases x <;> cases e; done) | skip
  cases r2
  refine ⟨rfl, ?_⟩
  rw [non_dec r1]
  have e : some (Dt.bl (isNon x)) = some d := by
    rw [← e]
    cases x <;> rfl
  cases e
  exact q _ G H (.refl s) (.bl _)
theorem snd_isNot : Snd2 X (fun x y H Q => y = .non ∧ Q (.bl (!decide (x = .non))) H) gIsNot := by
  intro G H x y d v w Q s r1 r2 e q
  cases y <;> first | (cases x <;> cases e; done) | skip
  cases r2
  refine ⟨rfl, ?_⟩
  rw [non_dec r1]
  have e : some (Dt.bl (!isNon x)) = some d := by
    rw [← e]
    cases x <;> rfl
  cases e
  exact q _ G H (.refl s) (.bl _)
end
end PL
/-! The plain layer: comparisons, subscripts, len, isinstance, int, displays. -/
namespace PL
open PySem L2
open PyProof.Rows hiding St
section
variable {X : Cx}
/-! ### order -/
/-- ints, texts -/
def gOrd (f : Int → Int → Bool) (g : List Nat → List Nat → Bool) : Dt → Dt → Option Dt
  | .int i, .int j => some (.bl (f i j))
  | .str x, .str y => some (.bl (g x.cps.toList y.cps.toList))
  | _, _ => none
def gLt : Dt → Dt → Option Dt := gI fun i j => .bl (decide (i < j))
def gLe : Dt → Dt → Option Dt := gI fun i j => .bl (decide (i ≤ j))
def gGt : Dt → Dt → Option Dt := gI fun i j => .bl (decide (j < i))
def gGe : Dt → Dt → Option Dt := gI fun i j => .bl (decide (j ≤ i))
theorem snd_lt : Snd2 X (rI0 fun i j => .bl (decide (i < j))) gLt := snd_I0 fun _ _ _ => .bl _
theorem snd_le : Snd2 X (rI0 fun i j => .bl (decide (i ≤ j))) gLe := snd_I0 fun _ _ _ => .bl _
theorem snd_gt : Snd2 X (rI0 fun i j => .bl (decide (j < i))) gGt := snd_I0 fun _ _ _ => .bl _
theorem snd_ge : Snd2 X (rI0 fun i j => .bl (decide (j ≤ i))) gGe := snd_I0 fun _ _ _ => .bl _
/-! ### ints -/
def gSub : Dt → Dt → Option Dt := gI fun i j => .int (i - j)
def gMul : Dt → Dt → Option Dt := gIc cMul fun i j => .int (i * j)
def gDiv : Dt → Dt → Option Dt := gIc cDiv fun i j => .int (i / j)
def gMod : Dt → Dt → Option Dt := gIc cMod fun i j => .int (i % j)
def gPow : Dt → Dt → Option Dt := gIc cPow fun i j => .int (i ^ j.toNat)
theorem snd_sub : Snd2 X (rI0 fun i j => .int (i - j)) gSub := snd_I0 fun _ _ _ => .int _
theorem snd_mul : Snd2 X (rI CMul fun i j => .int (i * j)) gMul := snd_Ic (fun i j h => by
  unfold cMul at h
  rw [Bool.or_eq_true] at h
  exact h.imp small_of small_of) fun _ _ _ => .int _
theorem snd_div : Snd2 X (rI CDivW fun i j => .int (i / j)) gDiv := snd_Ic (fun i j h => by
  unfold cDiv at h
  rw [Bool.and_eq_true] at h
  have h1 := of_decide_eq_true h.1
  have h2 := of_decide_eq_true h.2
  exact wide_div (b := 200) h1 (by omega) (by decide) (by decide)) fun _ _ _ => .int _
theorem snd_mod : Snd2 X (rI (fun _ j => 0 < j) fun i j => .int (i % j)) gMod := snd_Ic (fun i j h => of_decide_eq_true h) fun _ _ _ => .int _
theorem snd_pow : Snd2 X (rI CPow fun i j => .int (i ^ j.toNat)) gPow := snd_Ic (fun i j h => by
  unfold cPow at h
  rw [Bool.and_eq_true, Bool.and_eq_true] at h
  have h1 := of_decide_eq_true h.1
  have h2 := of_decide_eq_true h.2.1
  have h3 := small_of h.2.2
  exact ⟨h1, by omega, by omega⟩) fun _ _ _ => .int _
def gNeg : Dt → Option Dt
  | .int i => some (.int (-i))
  | _ => none
theorem snd_neg : Snd1 X (rU fun i => .int (-i)) gNeg := by
  intro G H x d v Q s r e q
  cases x <;> first | (cases e; done) | skip
  cases e
  cases r
  exact ⟨_, rfl, q _ G H (.refl s) (.int _)⟩
/-! ### x[i] -/
def gIx : Dt → Dt → Option Dt
  | .lst l, .int i => atI l i
  | .tup l, .int i => atI l i
  | .scr l, .int i => (atI l i).map Dt.int
  | .str x, .int i => if x.length ≤ 1000000 then (atI x.cps.toList i).map fun c => .str ⟨#[c]⟩ else none
  | _, _ => none
theorem ixN_len {α β : Type} {xs : List α} {ys : List β} (h : xs.length = ys.length) (i : Int) : ixN xs.length i = ixN ys.length i := by rw [h]
theorem atI_den {K : PySem.W.Frag} {G : Hp} {l : List Dt} {vs : List V} {i : Int} {d : Dt} (r : DenL K G l vs) (e : atI l i = some d) : ∃ v, atI vs i = some v ∧ Den K G d v := by
  unfold atI at *
  rw [← r.length]
  cases h : ixN l.length i with
  | none => rw [h] at e; cases e
  | some j =>
    rw [h] at e
    exact r.get e
theorem snd_ix : Snd2 X (rIx X.K) gIx := by
  intro G H x y d v w Q s r1 r2 e q
  cases y with
  | int i =>
    cases r2
    cases x with
    | lst l =>
      cases r1 with
      | lst g r =>
        obtain ⟨u, e1, ru⟩ := atI_den r e
        exact .inl ⟨_, _, _, _, rfl, rfl, .of (s _ _ g), e1, q _ G H (.refl s) ru⟩
    | tup l =>
      cases r1 with
      | tup g r =>
        obtain ⟨u, e1, ru⟩ := atI_den r e
        exact .inr (.inl ⟨_, _, _, _, rfl, rfl, .of (s _ _ g), e1, q _ G H (.refl s) ru⟩)
    | scr l =>
      cases r1 with
      | scr g =>
        have e : (atI l i).map Dt.int = some d := e
        cases e1 : atI l i with
        | none => rw [e1] at e; cases e
        | some n =>
          rw [e1] at e
          cases e
          refine .inl ⟨_, _, _, _, rfl, rfl, s.seq g, ?_, q _ G H (.refl s) (.int n)⟩
          unfold atI at *
          rw [List.length_map]
          cases h : ixN l.length i with
          | none => rw [h] at e1; cases e1
          | some j =>
            rw [h] at e1
            show (l.map V.int)[j]? = _
            rw [List.getElem?_map]
            have e1 : l[j]? = some n := e1
            rw [e1]
            rfl
    | str x =>
      cases r1 with
      | str _ hx =>
        have e : (if x.length ≤ 1000000 then (atI x.cps.toList i).map fun c => Dt.str ⟨#[c]⟩ else none) = some d := e
        by_cases h : x.length ≤ 1000000
        · rw [if_pos h] at e
          cases e1 : atI x.cps.toList i with
          | none => rw [e1] at e; cases e
          | some c =>
            rw [e1] at e
            cases e
            refine .inr (.inr ⟨x, i, c, rfl, rfl, line_ge h, e1, q _ G H (.refl s) (.str _ ?_)⟩)
            obtain ⟨j, _, hj, _⟩ := atI_get e1
            unfold PyData.strOk at *
            rw [Array.all_eq_true_iff_forall_mem] at *
            intro z hz
            have ez : z = c := by simpa using hz
            subst ez
            exact hx z (by
              have := List.mem_of_getElem? hj
              exact Array.mem_toList_iff.mp this)
        · rw [if_neg h] at e
          cases e
    | _ => cases e
  | _ => cases x <;> cases e
/-! ### len -/
def gLen : List Dt → Option Dt
  | [.lst l] => some (.int l.length)
  | [.tup l] => some (.int l.length)
  | [.scr l] => some (.int l.length)
  | [.str x] => if x.length ≤ 1000000 then some (.int x.length) else none
  | _ => none
theorem den1 {K : PySem.W.Frag} {G : Hp} {d : Dt} {vs : List V} (r : DenL K G [d] vs) : ∃ v, vs = [v] ∧ Den K G d v := by
  cases r with
  | cons a b =>
    cases b
    exact ⟨_, rfl, a⟩
theorem den2 {K : PySem.W.Frag} {G : Hp} {d e : Dt} {vs : List V} (r : DenL K G [d, e] vs) : ∃ v w, vs = [v, w] ∧ Den K G d v ∧ Den K G e w := by
  cases r with
  | cons a b =>
    obtain ⟨w, e, c⟩ := den1 b
    subst e
    exact ⟨_, _, rfl, a, c⟩
theorem snd_len : SndC X (fun xs H Q => ∃ x n, xs = [x] ∧ LenV X.K x H n ∧ Q (.int n) H) gLen := by
  intro G H xs d vs Q s r e q
  match xs, e with
  | [.lst l], e =>
    cases e
    obtain ⟨v, rfl, r1⟩ := den1 r
    cases r1 with
    | lst g r3 => exact ⟨_, _, rfl, .inl ⟨_, .of (s _ _ g), r3.length⟩, q _ G H (.refl s) (.int _)⟩
  | [.tup l], e =>
    cases e
    obtain ⟨v, rfl, r1⟩ := den1 r
    cases r1 with
    | tup g r3 => exact ⟨_, _, rfl, .inr ⟨_, .of (s _ _ g), r3.length⟩, q _ G H (.refl s) (.int _)⟩
  | [.scr l], e =>
    cases e
    obtain ⟨v, rfl, r1⟩ := den1 r
    cases r1 with
    | scr g => exact ⟨_, _, rfl, .inl ⟨_, s.seq g, by rw [List.length_map]⟩, q _ G H (.refl s) (.int _)⟩
  | [.str x], e =>
    obtain ⟨v, rfl, r1⟩ := den1 r
    cases r1 with
    | str _ hx =>
      have e : (if x.length ≤ 1000000 then some (Dt.int x.length) else none) = some d := e
      by_cases h : x.length ≤ 1000000
      · rw [if_pos h] at e
        cases e
        exact ⟨_, _, rfl, ⟨line_ge h, rfl⟩, q _ G H (.refl s) (.int _)⟩
      · rw [if_neg h] at e
        cases e
/-! ### isinstance(x, T), T a built-in type -/
def kindOf : Dt → Option String
  | .non => some "NoneType"
  | .bl _ => some "bool"
  | .int _ => some "int"
  | .str _ => some "str"
  | .lst _ => some "list"
  | .tup _ => some "tuple"
  | _ => none
def gIsi : List Dt → Option Dt
  | [x, .ty n] => (kindOf x).bind fun k => (kitB k n).map Dt.bl
  | _ => none
theorem snd_isi : SndC X (rIsi X.K) gIsi := by
  intro G H xs d vs Q s r e q
  match xs, e with
  | [x, .ty n], e =>
    obtain ⟨v, w, rfl, r1, r2⟩ := den2 r
    cases r2
    have e : ((kindOf x).bind fun k => (kitB k n).map Dt.bl) = some d := e
    cases hk : kindOf x with
    | none => rw [hk] at e; cases e
    | some k =>
      rw [hk] at e
      have e : (kitB k n).map Dt.bl = some d := e
      cases hb : kitB k n with
      | none => rw [hb] at e; cases e
      | some b =>
        rw [hb] at e
        cases e
        refine ⟨v, _, .type k, _, b, rfl, .ty n, ?_, kit_ty hb, q _ G H (.refl s) (.bl b)⟩
        cases r1 with
        | non => cases hk; exact .base .non
        | bl y => cases hk; exact .base (.bl y)
        | int y => cases hk; exact .base (.int y)
        | str y _ => cases hk; exact .base (.str y)
        | lst g _ => cases hk; exact .base (.lst (s _ _ g))
        | tup g _ => cases hk; exact .base (.tup (s _ _ g))
        | scr g => cases hk
        | ty y => cases hk
/-! ### int(x) -/
def gInt : List Dt → Option Dt
  | [.int i] => some (.int i)
  | [.bl b] => some (.int (if b = true then 1 else 0))
  | _ => none
theorem snd_int : SndC X (fun xs H Q => (∃ i, xs = [.int i] ∧ Q (.int i) H) ∨ ∃ k, xs = [.bl k] ∧ Q (.int (if k then 1 else 0)) H) gInt := by
  intro G H xs d vs Q s r e q
  match xs, e with
  | [.int i], e =>
    cases e
    obtain ⟨v, rfl, r1⟩ := den1 r
    cases r1
    exact .inl ⟨_, rfl, q _ G H (.refl s) (.int _)⟩
  | [.bl b], e =>
    cases e
    obtain ⟨v, rfl, r1⟩ := den1 r
    cases r1
    exact .inr ⟨_, rfl, q _ G H (.refl s) (.int _)⟩
/-! abs, max, min of two ints -/
def gAbs : List Dt → Option Dt
  | [.int i] => some (.int (if i < 0 then -i else i))
  | _ => none
theorem snd_abs : SndC X (fun xs H Q => ∃ i, xs = [.int i] ∧ Q (.int (if i < 0 then -i else i)) H) gAbs := by
  intro G H xs d vs Q s r e q
  match xs, e with
  | [.int i], e =>
    cases e
    obtain ⟨v, rfl, r1⟩ := den1 r
    cases r1
    exact ⟨_, rfl, q _ G H (.refl s) (.int _)⟩
def gMax2 : List Dt → Option Dt
  | [.int i, .int j] => some (.int (if j > i then j else i))
  | _ => none
theorem snd_max2 : SndC X (fun xs H Q => ∃ i j, xs = [.int i, .int j] ∧ Q (.int (if j > i then j else i)) H) gMax2 := by
  intro G H xs d vs Q s r e q
  match xs, e with
  | [.int i, .int j], e =>
    cases e
    obtain ⟨v, w, rfl, r1, r2⟩ := den2 r
    cases r1
    cases r2
    exact ⟨_, _, rfl, q _ G H (.refl s) (.int _)⟩
def gMin2 : List Dt → Option Dt
  | [.int i, .int j] => some (.int (if j < i then j else i))
  | _ => none
theorem snd_min2 : SndC X (fun xs H Q => ∃ i j, xs = [.int i, .int j] ∧ Q (.int (if j < i then j else i)) H) gMin2 := by
  intro G H xs d vs Q s r e q
  match xs, e with
  | [.int i, .int j], e =>
    cases e
    obtain ⟨v, w, rfl, r1, r2⟩ := den2 r
    cases r1
    cases r2
    exact ⟨_, _, rfl, q _ G H (.refl s) (.int _)⟩
end
/-! ### displays; lists that are new -/
def eTup (fs : Ev → Rs (List Dt)) (E : Ev) : Rs Dt := (fs E).bind fun xs => if xs.length ≤ 1000 then .ok (.tup xs) else .bad
def oLst (fs : Ev → Rs (List Dt)) (E : Ev) : Rs (List Dt) := (fs E).bind fun xs => if xs.length ≤ 1000 then .ok xs else .bad
def eL (o : Ev → Rs (List Dt)) (E : Ev) : Rs Dt := (o E).bind fun l => .ok (.lst l)
/-- a new list, that is not frozen as yet -/
def OR (X : Cx) (W : WX) (f : Ev → Rs (List Dt)) : TE := fun σ H Q => ∃ B G E, EnvOk X.fx B G H E σ ∧ After X W σ G H (f E) fun ds G' H' => ∀ p vs, H' p = none → DenL X.K G' ds vs → Q (.ref p) (upd H' p (.lst vs))
structure POX (X : Cx) (W : WX) (e : Expr) (f : Ev → Rs (List Dt)) : Prop where
  pe : PE X e (OR X W f)
section
variable {X : Cx} {W : WX} {e a b c : Expr} {es rest : List Expr} {f fa fb : Ev → Rs Dt} {fs o oa ob : Ev → Rs (List Dt)} {pos : Pos}
theorem px_tup {k} (h : PAX X W es fs) : PX X W (.Tuple es k pos) (eTup fs) := by
  refine ⟨PE.imp (pe_tup h.pa) fun σ H Q h => ?_⟩
  obtain ⟨B, G, E, x, h⟩ := h
  refine ar_bind x h fun ds vs G1 H1 g1 x1 r1 h1 => ?_
  by_cases hl : ds.length ≤ 1000
  · rw [if_pos hl] at h1
    refine ⟨?_, fun p n => h1 _ _ (Gr.new x1.gh n) _ (.tup upd_same (r1.mono (Gr.new (o := .tup _) x1.gh n).g))⟩
    rw [← r1.length]
    exact Nat.le_of_lt (small1000 hl)
  · rw [if_neg hl] at h1
    exact h1.elim
theorem px_new (h : POX X W e o) : PX X W e (eL o) := by
  refine ⟨PE.imp h.pe fun σ H Q h => ?_⟩
  obtain ⟨B, G, E, x, h⟩ := h
  refine ⟨B, G, E, x, h.bind.imp fun ds G1 H1 g1 h1 p vs n r => ?_⟩
  exact h1 _ _ (Gr.new g1.gh n) _ (.lst upd_same (r.mono (Gr.new (o := .lst _) g1.gh n).g))
theorem pox_lst (h : PAX X W es fs) : POX X W (.List es pos) (oLst fs) := by
  refine ⟨PE.imp (pe_lst h.pa) fun σ H Q h => ?_⟩
  obtain ⟨B, G, E, x, h⟩ := h
  refine ar_bind x h fun ds vs G1 H1 g1 x1 r1 h1 => ?_
  by_cases hl : ds.length ≤ 1000
  · rw [if_pos hl] at h1
    refine ⟨?_, fun p n => h1.ok x1.gh p vs n r1⟩
    rw [← r1.length]
    exact Nat.le_of_lt (small1000 hl)
  · rw [if_neg hl] at h1
    exact h1.elim
end
end PL
/-! The plain layer: slices, new lists, what is walked, comprehensions. -/
namespace PL
open PySem L2
open PyProof.Rows hiding St
/-! ### slices -/
def OPR (X : Cx) (W : WX) (f : Ev → Rs (Option Int)) : TO := fun σ H Q => ∃ B G E, EnvOk X.fx B G H E σ ∧ After X W σ G H (f E) fun o G' H' => Q o H'
structure POP (X : Cx) (W : WX) (e : Option Expr) (f : Ev → Rs (Option Int)) : Prop where
  po : PO X e (OPR X W f)
def pNone (_ : Ev) : Rs (Option Int) := .ok none
def pSome (f : Ev → Rs Dt) (E : Ev) : Rs (Option Int) := (f E).bind fun d => match d with
  | .int i => .ok (some i)
  | _ => .bad
def cutD (xs : List Dt) (lo hi : Option Int) : List Dt := (xs.drop (HT.sIx xs.length 0 lo)).take (HT.sIx xs.length xs.length hi - HT.sIx xs.length 0 lo)
theorem cut_den {K : PySem.W.Frag} {G : Hp} {l : List Dt} {vs : List V} (r : DenL K G l vs) (lo hi : Option Int) : DenL K G (cutD l lo hi) (cutV vs lo hi) := by
  unfold cutD cutV
  rw [← r.length]
  exact (r.drop _).take _
/-- list, text; a tuple's slice that is not the whole -/
def gSl (x : Dt) (lo hi : Option Int) : Option Dt := match x with
  | .lst l => some (.lst (cutD l lo hi))
  | .str z => if z.length ≤ 1000000 then some (.str (cutS z lo hi)) else none
  | _ => none
def eSl (fa : Ev → Rs Dt) (l h : Ev → Rs (Option Int)) (E : Ev) : Rs Dt := (fa E).bind fun x => (l E).bind fun lo => (h E).bind fun hi => Rs.of (gSl x lo hi)
def oSl (fa : Ev → Rs Dt) (l h : Ev → Rs (Option Int)) (E : Ev) : Rs (List Dt) := (fa E).bind fun x => (l E).bind fun lo => (h E).bind fun hi => match x with
  | .lst xs => .ok (cutD xs lo hi)
  | _ => .bad
theorem mem_cutS {z : Str} {lo hi : Option Int} {c : Nat} (h : c ∈ (cutS z lo hi).cps) : c ∈ z.cps := by
  unfold cutS at h
  have h2 := Array.mem_toList_iff.mpr h
  simp only [List.toList_toArray] at h2
  first
    | exact Array.mem_toList_iff.mp (List.mem_of_mem_drop (List.mem_of_mem_take h2))
    | exact Array.mem_toList_iff.mp (List.mem_of_mem_take (List.mem_of_mem_drop h2))
theorem strOk_cut {z : Str} {lo hi : Option Int} (h : PyData.strOk z = true) : PyData.strOk (cutS z lo hi) = true := by
  unfold PyData.strOk at *
  rw [Array.all_eq_true_iff_forall_mem] at *
  exact fun c hc => h c (mem_cutS hc)
section
variable {X : Cx} {W : WX} {e a b c : Expr} {es rest : List Expr} {f fa fb : Ev → Rs Dt} {fs o oa ob : Ev → Rs (List Dt)} {pos p2 : Pos} {lo hi : Option Expr} {fl fh : Ev → Rs (Option Int)} {σ : St} {G H B : Hp} {E : Ev}
theorem PO.imp {e : Option Expr} {t t' : TO} (h : PO X e t) (w : ∀ σ H Q, t' σ H Q → t σ H Q) : PO X e t' := ⟨fun pins s σ H Q I q => h.run pins s σ H Q I (w σ H Q q)⟩
theorem pop_none : POP X W none pNone := ⟨PO.imp po_none fun σ H Q ⟨B, G, E, x, h⟩ => h.ok x.gh⟩
theorem pop_some (h : PX X W e f) : POP X W (some e) (pSome f) := by
  refine ⟨PO.imp (po_some h.pe) fun σ H Q ⟨B, G, E, x, h⟩ => ?_⟩
  refine xr_bind x h fun d v G1 H1 g1 x1 r1 h1 => ?_
  cases d with
  | int i =>
    cases r1
    exact ⟨i, rfl, h1.ok x1.gh⟩
  | _ => exact h1.elim
theorem opr_bind {f : Ev → Rs (Option Int)} {β : Type} {g : Option Int → Rs β} {k : β → Hp → Hp → Prop} {Q : Option Int → Hp → Prop} (x : EnvOk X.fx B G H E σ) (h : After X W σ G H ((f E).bind g) k)
    (q : ∀ b G' H', Gr G H G' H' → EnvOk X.fx B G' H' E σ → After X W σ G' H' (g b) k → Q b H') : OPR X W f σ H Q :=
  ⟨B, G, E, x, h.bind.imp fun b G' H' gr a => q b G' H' gr (x.grow gr) a⟩
theorem px_sl (ha : PX X W a fa) (hl : POP X W lo fl) (hh : POP X W hi fh) : PX X W (.Subscript a (.Slice lo hi none p2) pos) (eSl fa fl fh) := by
  refine ⟨PE.imp (pe_slice (sl_list.or sl_str) ha.pe hl.po hh.po) fun σ H Q ⟨B, G, E, x, h⟩ => ?_⟩
  refine xr_bind x h fun d v G1 H1 g1 x1 r1 h1 => opr_bind x1 h1 fun l G2 H2 g2 x2 h2 => opr_bind x2 h2 fun u G3 H3 g3 x3 h3 => ?_
  obtain ⟨z, e, k⟩ := h3.of
  have r3 := r1.mono (g2.g.trans g3.g)
  cases d with
  | lst xs =>
    cases e
    cases r3 with
    | lst g r => exact .inl ⟨_, _, rfl, .of (x3.gh _ _ g), fun p n => k _ _ (Gr.new x3.gh n) _ (.lst upd_same ((cut_den r l u).mono (Gr.new (o := .lst _) x3.gh n).g))⟩
  | str y =>
    have e : (if y.length ≤ 1000000 then some (Dt.str (cutS y l u)) else none) = some z := e
    by_cases hz : y.length ≤ 1000000
    · rw [if_pos hz] at e
      cases e
      cases r3 with
      | str _ hy => exact .inr ⟨_, rfl, line_ge hz, k _ _ (.refl x3.gh) _ (.str _ (strOk_cut hy))⟩
    · rw [if_neg hz] at e
      cases e
  | _ => cases e
theorem pox_sl (ha : PX X W a fa) (hl : POP X W lo fl) (hh : POP X W hi fh) : POX X W (.Subscript a (.Slice lo hi none p2) pos) (oSl fa fl fh) := by
  refine ⟨PE.imp (pe_slice sl_list ha.pe hl.po hh.po) fun σ H Q ⟨B, G, E, x, h⟩ => ?_⟩
  refine xr_bind x h fun d v G1 H1 g1 x1 r1 h1 => opr_bind x1 h1 fun l G2 H2 g2 x2 h2 => opr_bind x2 h2 fun u G3 H3 g3 x3 h3 => ?_
  have r3 := r1.mono (g2.g.trans g3.g)
  cases d with
  | lst xs =>
    cases r3 with
    | lst g r => exact ⟨_, _, rfl, .of (x3.gh _ _ g), fun p n => h3.ok x3.gh p _ n (cut_den r l u)⟩
  | _ => exact h3.elim
/-- xs[::-1] -/
def oRev (fa : Ev → Rs Dt) (E : Ev) : Rs (List Dt) := (fa E).bind fun x => match x with
  | .lst xs => .ok xs.reverse
  | _ => .bad
theorem pox_rev {k : Nat} {p1 p2 p3 : Pos} (ha : PX X W a fa) : POX X W (.Subscript a (.Slice none none (some (.UnaryOp .USub (.Constant (.int 1) k p1) p2)) p3) pos) (oRev fa) := by
  refine ⟨PE.imp (pe_revL ha.pe) fun σ H Q ⟨B, G, E, x, h⟩ => ?_⟩
  refine xr_bind x h fun d v G1 H1 g1 x1 r1 h1 => ?_
  cases d with
  | lst xs =>
    cases r1 with
    | lst g r => exact ⟨_, _, rfl, .of (x1.gh _ _ g), fun p n => h1.ok x1.gh p _ n r.reverse⟩
  | _ => exact h1.elim
/-! a built-in's call that makes a new list -/
def SndO (X : Cx) (r : List V → Hp → VK → Prop) (g : List Dt → Option (List Dt)) : Prop := ∀ (G H : Hp) (xs ds : List Dt) (vs : List V) (Q : VK), Same G H → DenL X.K G xs vs → g xs = some ds →
  (∀ p ws, H p = none → DenL X.K G ds ws → Q (.ref p) (upd H p (.lst ws))) → r vs H Q
def oCB (g : List Dt → Option (List Dt)) (r : Ev → Rs (List Dt)) (E : Ev) : Rs (List Dt) := (r E).bind fun xs => Rs.of (g xs)
theorem pox_callB {x : Str} {p : Pos} {id : String} {r : List V → Hp → VK → Prop} {g : List Dt → Option (List Dt)} (hc : CallR X (.builtin id) r) (hs : SndO X r g) (hm : X.mg x = none) (hv : bootBuiltins x = some (.builtin id)) (ha : PAX X W (e :: es) fs) (hg : Gl X x := by rfl) (hn : x ≠ "__name__" := by decide) (hdb : (x == ("__debug__" : Str)) = false := by decide)
    (he : starEach (e :: es) X.env = (false, eval e X.env) :: starEach es X.env := by rfl) (hpl : (backTo pos (starEach es X.env)).any (·.1) = false := by rfl) : POX X W (.Call (.Name x p) (e :: es) [] pos) (oCB g fs) := by
  refine ⟨PE.imp (pe_callB hc hg hm hv ha.pa hn hdb he hpl) fun σ H Q ⟨B, G, E, x, h⟩ => ?_⟩
  refine ar_bind x h fun ds vs G1 H1 g1 x1 r1 h1 => ?_
  obtain ⟨z, e, k⟩ := h1.of
  exact hs G1 H1 ds z vs Q x1.gh r1 e fun p ws n rd => k G1 H1 (.refl x1.gh) p ws n rd
theorem pox_callTy {x : Str} {p : Pos} {T : String} {r : List V → Hp → VK → Prop} {g : List Dt → Option (List Dt)} (hc : CallR X (.type T) r) (hs : SndO X r g) (hm : X.mg x = none) (hv : bootBuiltins x = some (.type T)) (ha : PAX X W (e :: es) fs) (hg : Gl X x := by rfl) (hn : x ≠ "__name__" := by decide) (hdb : (x == ("__debug__" : Str)) = false := by decide)
    (he : starEach (e :: es) X.env = (false, eval e X.env) :: starEach es X.env := by rfl) (hpl : (backTo pos (starEach es X.env)).any (·.1) = false := by rfl) : POX X W (.Call (.Name x p) (e :: es) [] pos) (oCB g fs) := by
  refine ⟨PE.imp (pe_callTy hc hg hm hv ha.pa hn hdb he hpl) fun σ H Q ⟨B, G, E, x, h⟩ => ?_⟩
  refine ar_bind x h fun ds vs G1 H1 g1 x1 r1 h1 => ?_
  obtain ⟨z, e, k⟩ := h1.of
  exact hs G1 H1 ds z vs Q x1.gh r1 e fun p ws n rd => k G1 H1 (.refl x1.gh) p ws n rd
/-! list(x) -/
def gList : List Dt → Option (List Dt)
  | [.lst l] => some l
  | [.tup l] => some l
  | _ => none
theorem snd_list : SndO X (fun xs H Q => ∃ p ys, xs = [.ref p] ∧ (SqL X.K H p ys ∨ SqT X.K H p ys) ∧ ∀ l, H l = none → Q (.ref l) (upd H l (.lst ys))) gList := by
  intro G H xs ds vs Q s r e q
  match xs, e with
  | [.lst l], e =>
    cases e
    obtain ⟨v, rfl, r1⟩ := den1 r
    cases r1 with
    | lst g r3 => exact ⟨_, _, rfl, .inl (.of (s _ _ g)), fun p n => q p _ n r3⟩
  | [.tup l], e =>
    cases e
    obtain ⟨v, rfl, r1⟩ := den1 r
    cases r1 with
    | tup g r3 => exact ⟨_, _, rfl, .inr (.of (s _ _ g)), fun p n => q p _ n r3⟩
/-! sorted(xs), ints -/
def intsOf : List Dt → Option (List Int)
  | [] => some []
  | .int i :: r => (intsOf r).map (i :: ·)
  | _ :: _ => none
def isort (l : List Int) : List Int := l.mergeSort (fun a b => decide (a ≤ b))
theorem isort_perm (l : List Int) : (isort l).Perm l := List.mergeSort_perm l _
theorem isort_sorted (l : List Int) : (isort l).Pairwise (· ≤ ·) := by
  have h := List.pairwise_mergeSort (le := fun (a b : Int) => decide (a ≤ b)) (fun a b c h1 h2 => decide_eq_true (Int.le_trans (of_decide_eq_true h1) (of_decide_eq_true h2)))
    (fun a b => by
      rcases Int.le_total a b with h | h
      · simp [h]
      · simp [h]) l
  exact h.imp fun h => of_decide_eq_true h
theorem ints_den {K : PySem.W.Frag} {G : Hp} : ∀ {l : List Dt} {ns : List Int} {vs : List V}, intsOf l = some ns → DenL K G l vs → vs = ns.map V.int ∧ l = ns.map Dt.int
  | [], _, _, e, .nil => by
    cases e
    exact ⟨rfl, rfl⟩
  | .int i :: r, ns, _, e, .cons a b => by
    cases a
    have e : (intsOf r).map (i :: ·) = some ns := e
    cases h : intsOf r with
    | none => rw [h] at e; cases e
    | some ms =>
      rw [h] at e
      cases e
      obtain ⟨h1, h2⟩ := ints_den h b
      subst h1
      exact ⟨rfl, by rw [h2]; rfl⟩
theorem den_ints {K : PySem.W.Frag} {G : Hp} : ∀ ns : List Int, DenL K G (ns.map Dt.int) (ns.map V.int)
  | [] => .nil
  | n :: r => .cons (.int n) (den_ints r)
def gSorted : List Dt → Option (List Dt)
  | [.lst l] => (intsOf l).map fun ns => (isort ns).map Dt.int
  | _ => none
theorem snd_sorted : SndO X (rSortedI X.K) gSorted := by
  intro G H xs ds vs Q s r e q
  match xs, e with
  | [.lst l], e =>
    have e : ((intsOf l).map fun ns => (isort ns).map Dt.int) = some ds := e
    cases h : intsOf l with
    | none => rw [h] at e; cases e
    | some ns =>
      rw [h] at e
      cases e
      obtain ⟨v, rfl, r1⟩ := den1 r
      cases r1 with
      | lst g r3 =>
        obtain ⟨h1, h2⟩ := ints_den h r3
        subst h1
        refine ⟨_, ns, rfl, .of (s _ _ g), fun ns' p hp ho n => ?_⟩
        have e2 : ns' = isort ns := PySem.W.ksm_same (hp.trans (isort_perm ns).symm) ho (isort_sorted ns)
        subst e2
        exact q p _ n (den_ints _)
end
/-! ### what is walked -/
/-- the iterator's turns are the data ds -/
def ItIs (K : PySem.W.Frag) (G : Hp) (J : It) (ds : List Dt) : Prop := ∀ (i : Nat) (G1 H1 : Hp), Same G G1 → Same G1 H1 →
  (∀ d, ds[i]? = some d → J.go i H1 ∧ ∀ x H2, J.yld i H1 x H2 → ∃ G2, Gr G1 H1 G2 H2 ∧ Den K G2 d x) ∧ (ds[i]? = none → J.stop i H1)
def IR (X : Cx) (W : WX) (f : Ev → Rs (List Dt)) : TI := fun σ H R => ∃ B G E, EnvOk X.fx B G H E σ ∧ After X W σ G H (f E) fun ds G' H' => ∀ J, ItIs X.K G' J ds → R J H'
structure PIX (X : Cx) (W : WX) (tg e : Expr) (f : Ev → Rs (List Dt)) : Prop where
  pi : PI X tg e (IR X W f)
theorem PI.imp {X : Cx} {tg e : Expr} {t t' : TI} (h : PI X tg e t) (w : ∀ σ H Q, t' σ H Q → t σ H Q) : PI X tg e t' := ⟨fun pins s σ H Q I q => h.run pins s σ H Q I (w σ H Q q)⟩
/-- a list or a tuple (which of them the kind must be known: two rules), a text -/
def iL (f : Ev → Rs Dt) (E : Ev) : Rs (List Dt) := (f E).bind fun d => match d with
  | .lst l => .ok l
  | _ => .bad
def iT (f : Ev → Rs Dt) (E : Ev) : Rs (List Dt) := (f E).bind fun d => match d with
  | .tup l => .ok l
  | _ => .bad
def iS (f : Ev → Rs Dt) (E : Ev) : Rs (List Dt) := (f E).bind fun d => match d with
  | .str x => .ok (x.cps.toList.map fun c => .str ⟨#[c]⟩)
  | _ => .bad
def rng (lo : Int) (n : Nat) : List Dt := (List.range n).map fun (i : Nat) => Dt.int (lo + (i : Int))
def okR (i : Int) : Bool := decide (-(2 ^ 62) ≤ i) && decide (i < 2 ^ 62)
def iR1 (fs : Ev → Rs (List Dt)) (E : Ev) : Rs (List Dt) := (fs E).bind fun ds => match ds with
  | [.int j] => if okR j = true then .ok (rng 0 j.toNat) else .bad
  | _ => .bad
def iR2 (fs : Ev → Rs (List Dt)) (E : Ev) : Rs (List Dt) := (fs E).bind fun ds => match ds with
  | [.int i, .int j] => if okR i = true ∧ okR j = true then .ok (rng i (j - i).toNat) else .bad
  | _ => .bad
theorem okR_of {i : Int} (h : okR i = true) : -(2 ^ 62) ≤ i ∧ i < 2 ^ 62 := by
  unfold okR at h
  rw [Bool.and_eq_true] at h
  exact ⟨of_decide_eq_true h.1, of_decide_eq_true h.2⟩
theorem itIs_rng {K : PySem.W.Frag} {G : Hp} {lo : Int} {n : Nat} : ItIs K G (Itr lo n) (rng lo n) := by
  intro i G1 H1 s1 s2
  refine ⟨fun d e => ?_, fun e => ?_⟩
  · unfold rng at e
    rw [List.getElem?_map] at e
    cases h : (List.range n)[i]? with
    | none => rw [h] at e; cases e
    | some j =>
      rw [h] at e
      cases e
      have hi : i < n := by
        have := (List.getElem?_eq_some_iff.mp h).1
        rwa [List.length_range] at this
      have ej : j = i := by
        rw [List.getElem?_range hi] at h
        exact (Option.some.inj h).symm
      subst ej
      refine ⟨hi, fun x H2 y => ?_⟩
      obtain ⟨e1, e2⟩ := y
      subst e1
      subst e2
      exact ⟨G1, .refl s2, .int _⟩
  · unfold rng at e
    rw [List.getElem?_map] at e
    have : (List.range n)[i]? = none := by
      cases h : (List.range n)[i]? with
      | none => rfl
      | some j => rw [h] at e; cases e
    have h2 := List.getElem?_eq_none_iff.mp this
    rwa [List.length_range] at h2
theorem get_none {K : PySem.W.Frag} {G : Hp} {ds : List Dt} {vs : List V} (r : DenL K G ds vs) {i : Nat} (e : ds[i]? = none) : vs.length ≤ i := by
  rw [← r.length]
  exact List.getElem?_eq_none_iff.mp e
section
variable {X : Cx} {W : WX} {tg e a b c : Expr} {f fa fb : Ev → Rs Dt} {pos p : Pos}
theorem pix_lst (h : PX X W e f) : PIX X W tg e (iL f) := by
  refine ⟨PI.imp (pi_list h.pe) fun σ H R ⟨B, G, E, x, h⟩ => ?_⟩
  refine xr_bind x h fun d v G1 H1 g1 x1 r1 h1 => ?_
  cases d with
  | lst l =>
    cases r1 with
    | lst g r =>
      rename_i a vs
      refine ⟨a, rfl, ⟨_, .of (x1.gh _ _ g)⟩, h1.ok x1.gh _ ?_⟩
      intro i G2 H2 s1 s2
      have hS : SqL X.K H2 a vs := .of (s2 _ _ (s1 _ _ g))
      refine ⟨fun d e => ?_, fun e => ⟨vs, hS, get_none r e⟩⟩
      obtain ⟨v, e1, rv⟩ := r.get e
      refine ⟨⟨vs, v, hS, e1⟩, fun y H3 hy => ?_⟩
      obtain ⟨e2, e3⟩ := hy
      subst e2
      have ey := Option.some.inj ((e3 vs hS).symm.trans e1)
      subst ey
      exact ⟨G2, .refl s2, rv.mono s1⟩
  | _ => exact h1.elim
theorem pix_tup (h : PX X W e f) : PIX X W tg e (iT f) := by
  refine ⟨PI.imp (pi_tup h.pe) fun σ H R ⟨B, G, E, x, h⟩ => ?_⟩
  refine xr_bind x h fun d v G1 H1 g1 x1 r1 h1 => ?_
  cases d with
  | tup l =>
    cases r1 with
    | tup g r =>
      rename_i a vs
      refine ⟨a, rfl, ⟨_, .of (x1.gh _ _ g)⟩, h1.ok x1.gh _ ?_⟩
      intro i G2 H2 s1 s2
      have hS : SqT X.K H2 a vs := .of (s2 _ _ (s1 _ _ g))
      refine ⟨fun d e => ?_, fun e => ⟨vs, hS, get_none r e⟩⟩
      obtain ⟨v, e1, rv⟩ := r.get e
      refine ⟨⟨vs, v, hS, e1⟩, fun y H3 hy => ?_⟩
      obtain ⟨e2, e3⟩ := hy
      subst e2
      have ey := Option.some.inj ((e3 vs hS).symm.trans e1)
      subst ey
      exact ⟨G2, .refl s2, rv.mono s1⟩
  | _ => exact h1.elim
theorem pix_r1 {fs : Ev → Rs (List Dt)} (hm : X.mg "range" = none) (ha : PAX X W [a] fs) (hg : Gl X "range" := by rfl) (hs : starEach [a] X.env = [(false, eval a X.env)] := by rfl) : PIX X W tg (.Call (.Name "range" p) [a] [] pos) (iR1 fs) := by
  refine ⟨PI.imp (pi_range1 hg hm ha.pa hs) fun σ H R ⟨B, G, E, x, h⟩ => ?_⟩
  refine ar_bind x h fun ds vs G1 H1 g1 x1 r1 h1 => ?_
  match ds, r1, h1 with
  | [.int j], r1, h1 =>
    obtain ⟨v, rfl, r2⟩ := den1 r1
    cases r2
    have h1 : After X W σ G1 H1 (if okR j = true then .ok (rng 0 j.toNat) else .bad) (fun ds G' H' => ∀ J, ItIs X.K G' J ds → R J H') := h1
    by_cases hj : okR j = true
    · rw [if_pos hj] at h1
      obtain ⟨b1, b2⟩ := okR_of hj
      exact ⟨j, rfl, b1, b2, h1.ok x1.gh _ itIs_rng⟩
    · rw [if_neg hj] at h1
      exact h1.elim
theorem pix_r2 {fs : Ev → Rs (List Dt)} (hm : X.mg "range" = none) (ha : PAX X W [a, b] fs) (hg : Gl X "range" := by rfl) (hs : starEach [a, b] X.env = [(false, eval a X.env), (false, eval b X.env)] := by rfl) (hs2 : starEach [b] X.env = [(false, eval b X.env)] := by rfl) :
    PIX X W tg (.Call (.Name "range" p) [a, b] [] pos) (iR2 fs) := by
  refine ⟨PI.imp (pi_range2 hg hm ha.pa hs hs2) fun σ H R ⟨B, G, E, x, h⟩ => ?_⟩
  refine ar_bind x h fun ds vs G1 H1 g1 x1 r1 h1 => ?_
  match ds, r1, h1 with
  | [.int i, .int j], r1, h1 =>
    obtain ⟨v, w, rfl, r2, r3⟩ := den2 r1
    cases r2
    cases r3
    have h1 : After X W σ G1 H1 (if okR i = true ∧ okR j = true then .ok (rng i (j - i).toNat) else .bad) (fun ds G' H' => ∀ J, ItIs X.K G' J ds → R J H') := h1
    by_cases hj : okR i = true ∧ okR j = true
    · rw [if_pos hj] at h1
      obtain ⟨b1, b2⟩ := okR_of hj.1
      obtain ⟨b3, b4⟩ := okR_of hj.2
      exact ⟨i, j, rfl, ⟨b1, b2, b3, b4⟩, h1.ok x1.gh _ itIs_rng⟩
    · rw [if_neg hj] at h1
      exact h1.elim
end
end PL
/-! The plain layer: targets, comprehensions. -/
namespace PL
open PySem L2
open PyProof.Rows hiding St
/-! ### targets: a name; several names of a tuple -/
inductive Tg where
  | one (i : Nat) | tup (is : List Nat)
def setAll : List Nat → List Dt → Ev → Ev
  | i :: is, d :: ds, E => setAll is ds (E.set i (.val d))
  | _, _, E => E
def Tg.go (t : Tg) (d : Dt) (E : Ev) : Option Ev := match t, d with
  | .one i, d => some (E.set i (.val d))
  | .tup is, .tup ds => if ds.length = is.length then some (setAll is ds E) else none
  | _, _ => none
def Tg.ids : Tg → List Nat
  | .one i => [i]
  | .tup is => is
def gNames : List Nat → TGs
  | [] => gNil
  | i :: is => gCons (gName i) (gNames is)
def setV : List Nat → List V → St → St
  | i :: is, v :: vs, σ => setV is vs (σ.set i (some v))
  | _, _, σ => σ
def Tg.g (K : PySem.W.Frag) : Tg → TG
  | .one i => gName i
  | .tup is => gTup K is.length (gNames is)
section
variable {K : Fx} {B G H : Hp} {E E' : Ev} {σ : St}
theorem wipe_set {i : Nat} {o : Option V} : ∀ {vs : List Nat} {σ : St}, wipe (σ.set i o) vs = if i ∈ vs then wipe σ vs else (wipe σ vs).set i o
  | [], σ => by simp [wipe]
  | v :: vs, σ => by
    unfold wipe
    rw [wipe_set (vs := vs)]
    by_cases hv : i = v
    · subst hv
      by_cases h : i ∈ vs
      · simp [h]
      · simp [h, List.set_set]
    · by_cases h : i ∈ vs
      · simp [h]
      · simp only [h, if_false, List.mem_cons, hv, false_or]
        exact List.set_comm _ _ hv
theorem wipe_setIn {i : Nat} {o : Option V} {vs : List Nat} {σ : St} (h : i ∈ vs) : wipe (σ.set i o) vs = wipe σ vs := by
  rw [wipe_set, if_pos h]
theorem wipe_setV {vs : List Nat} : ∀ {is : List Nat} {ws : List V} {σ : St}, (∀ i ∈ is, i ∈ vs) → wipe (setV is ws σ) vs = wipe σ vs
  | [], _, σ, _ => by simp [setV]
  | _ :: _, [], σ, _ => by simp [setV]
  | i :: is, w :: ws, σ, h => by
    unfold setV
    rw [wipe_setV (fun j hj => h j (List.mem_cons_of_mem _ hj)), wipe_setIn (h i List.mem_cons_self)]
theorem gNames_of : ∀ {is : List Nat} {ds : List Dt} {vs : List V} {E : Ev} {σ : St} {Q : St → Hp → Prop}, is.length = ds.length → DenL K.K G ds vs → EnvOk K B G H E σ →
    (EnvOk K B G H (setAll is ds E) (setV is vs σ) → Q (setV is vs σ) H) → gNames is vs σ H Q
  | [], [], _, E, σ, Q, _, .nil, x, q => ⟨rfl, q x⟩
  | i :: is, d :: ds, _, E, σ, Q, e, .cons (v := v) r rs, x, q => ⟨v, _, rfl, gNames_of (is := is) (by simpa using e) rs (x.setVal r) q⟩
theorem tg_of {t : Tg} {d : Dt} {v : V} {Q : St → Hp → Prop} (x : EnvOk K B G H E σ) (r : Den K.K G d v) (e : t.go d E = some E') (q : ∀ σ', EnvOk K B G H E' σ' → (∀ vs : List Nat, (∀ i ∈ t.ids, i ∈ vs) → wipe σ' vs = wipe σ vs) → Q σ' H) : t.g K.K v σ H Q := by
  cases t with
  | one i =>
    cases e
    exact q _ (x.setVal r) fun vs h => wipe_setIn (h i List.mem_cons_self)
  | tup is =>
    cases d with
    | tup ds =>
      have e : (if ds.length = is.length then some (setAll is ds E) else none) = some E' := e
      by_cases hl : ds.length = is.length
      · rw [if_pos hl] at e
        cases e
        cases r with
        | tup g rs => exact ⟨_, _, rfl, .of (x.gh _ _ g), rs.length.symm.trans hl, gNames_of hl.symm rs x fun y => q _ y fun vs h => wipe_setV h⟩
      · rw [if_neg hl] at e
        cases e
    | _ => cases e
end
/-! ### comprehensions -/
def lcR (t : Tg) (ft : Ev → Rs Bool) (fe : Ev → Rs Dt) (E : Ev) : List Dt → Rs (List Dt)
  | [] => .ok []
  | d :: ds => (Rs.of (t.go d E)).bind fun E1 => (ft E1).bind fun b => if b = true then (fe E1).bind fun y => (lcR t ft fe E ds).bind fun r => .ok (y :: r) else lcR t ft fe E ds
def wipeE (E : Ev) : List Nat → Ev
  | [] => E
  | v :: vs => (wipeE E vs).set v .un
/-- no slot holds an error that is handled -/
def noExc (E : Ev) : Bool := E.all fun s => match s with
  | .exc _ => false
  | _ => true
theorem EnvOk.to {K K' : Fx} {B G H : Hp} {E : Ev} {σ : St} (x : EnvOk K B G H E σ) (hK : K'.K = K.K) (n : noExc E = true) : EnvOk K' B G H E σ := by
  obtain ⟨F, f⟩ := x.fp
  refine ⟨x.len, x.bh, x.gh, F, ⟨fun i s e => ?_, f.inj, f.fr⟩⟩
  have q := f.sl i s e
  cases s with
  | un => exact q
  | val d => unfold SlOk at *; rw [hK]; exact q
  | own l => unfold SlOk at *; rw [hK]; exact q
  | own2 l => unfold SlOk at *; rw [hK]; exact q
  | exc y =>
    unfold noExc at n
    have z := List.all_eq_true.mp n _ (List.mem_of_getElem? e)
    cases z
def noErr {α : Type} : Rs α → Rs α
  | .ok a => .ok a
  | _ => .bad
def oLc (fi : Ev → Rs (List Dt)) (own : List Nat) (t : Tg) (ft : Ev → Rs Bool) (fe : Ev → Rs Dt) (E : Ev) : Rs (List Dt) := (fi E).bind fun ds => if ds.length ≤ 1000000 ∧ noExc (wipeE E own) = true then noErr (lcR t ft fe (wipeE E own) ds) else .bad
def bYes (_ : Ev) : Rs Bool := .ok true
abbrev W0 : WX := fun _ _ _ _ => False
structure PTSX (X : Cx) (W : WX) (ifs : List Expr) (f : Ev → Rs Bool) : Prop where
  pts : PTs X ifs (TR X W f)
theorem Rs.bind_okI {α β : Type} {r : Rs α} {f : α → Rs β} {b : β} (h : r.bind f = .ok b) : ∃ a, r = .ok a ∧ f a = .ok b := by
  cases r with
  | ok a => exact ⟨a, rfl, h⟩
  | err x => cases h
  | bad => cases h
theorem Rs.of_okI {α : Type} {o : Option α} {b : α} (h : Rs.of o = .ok b) : o = some b := by
  cases o with
  | none => cases h
  | some a => cases h; rfl
section
variable {X : Cx} {W : WX} {e c : Expr} {tc : Ev → Rs Bool} {ifs : List Expr}
theorem PTs.imp {ifs : List Expr} {t t' : TT} (h : PTs X ifs t) (w : ∀ σ H Q, t' σ H Q → t σ H Q) : PTs X ifs t' := ⟨fun pins s σ H Q I q => h.run pins s σ H Q I (w σ H Q q)⟩
theorem ptsx_nil : PTSX X W [] bYes := ⟨PTs.imp pts_nil fun σ H Q ⟨B, G, E, x, h⟩ => h.ok x.gh⟩
theorem ptsx_one (h : PTX X W c tc) : PTSX X W [c] tc := ⟨pts_one h.pt⟩
theorem EnvOk.wipe {K : Fx} {B G H : Hp} {E : Ev} {σ : St} (x : EnvOk K B G H E σ) : ∀ vs : List Nat, EnvOk K B G H (wipeE E vs) (L2.wipe σ vs)
  | [] => x
  | v :: vs => (EnvOk.wipe x vs).setUn
theorem upd_del {H : Hp} {D : Addr} {o : HO} (h : H D = some o) : upd (fun b => if b = D then none else H b) D o = H := by
  funext b
  by_cases hb : b = D
  · subst hb
    rw [upd_same, h]
  · rw [upd_ne hb]
    exact if_neg hb
theorem lc_of {fi : Ev → Rs (List Dt)} {own : List Nat} {t : Tg} {ft : Ev → Rs Bool} {fe : Ev → Rs Dt} {X' : Cx} (hK : X'.K = X.K) {g : TG} (hg : g = t.g X.K) (hids : ∀ i ∈ t.ids, i ∈ own)
    {σ : St} {H : Hp} {Q : VK} (h : OR X W (oLc fi own t ft fe) σ H Q) : tLc (IR X W fi) g (TR X' W0 ft) (XR X' W0 fe) own σ H Q := by
  obtain ⟨B, G, E, x, h⟩ := h
  subst hg
  refine ⟨B, G, E, x, h.bind.imp fun ds G1 H1 g1 h1 J hJ D hD => ?_⟩
  have x1 := x.grow g1
  by_cases hl2 : ds.length ≤ 1000000 ∧ noExc (wipeE E own) = true
  case neg =>
    rw [if_neg hl2] at h1
    exact h1.elim
  rw [if_pos hl2] at h1
  obtain ⟨hl, hne⟩ := hl2
  cases hR : lcR t ft fe (wipeE E own) ds with
  | err y => rw [hR] at h1; exact h1.elim
  | bad => rw [hR] at h1; exact h1.elim
  | ok total =>
  rw [hR] at h1
  have h1 : ∀ G' H', Gr G1 H1 G' H' → ∀ p vs, H' p = none → DenL X.K G' total vs → Q (.ref p) (upd H' p (.lst vs)) := h1
  refine ⟨fun i m H2 => m = ds.length - i ∧ i ≤ ds.length ∧ ∃ (G2 : Hp) (aD : List Dt) (aV : List V) (r : List Dt), Gr G1 H1 G2 (fun b => if b = D then none else H2 b) ∧ H2 D = some (.lst aV) ∧ DenL X.K G2 aD aV ∧ aV.length ≤ i ∧
      lcR t ft fe (wipeE E own) (ds.drop i) = .ok r ∧ total = aD ++ r, ⟨ds.length, rfl, Nat.zero_le _, G1, [], [], total, ?_, upd_same, .nil, Nat.le_refl _, by rw [List.drop_zero]; exact hR, rfl⟩, ?_⟩
  · have e : (fun b => if b = D then none else (upd H1 D (.lst [])) b) = H1 := by
      funext b
      by_cases hb : b = D
      · subst hb
        rw [if_pos rfl, hD]
      · rw [if_neg hb, upd_ne hb]
    rw [e]
    exact .refl x1.gh
  rintro i m H2 ⟨rfl, hi, G2, aD, aV, r, g2, hD2, rA, hA, hr, ht⟩
  have hDn : (fun b => if b = D then none else H2 b) D = none := if_pos rfl
  have e2 : upd (fun b => if b = D then none else H2 b) D (.lst aV) = H2 := upd_del hD2
  have gD : Gr G2 (fun b => if b = D then none else H2 b) G2 H2 := by
    have z := Gr.newH (o := .lst aV) g2.gh hDn
    rw [e2] at z
    exact z
  have g12 : Gr G1 H1 G2 H2 := g2.trans gD
  have x2 : EnvOk X.fx B G2 H2 E σ := x1.grow g12
  have nD : G2 D = none := by
    cases z : G2 D with
    | none => rfl
    | some o =>
      have z2 := g2.gh _ _ z
      rw [if_pos rfl] at z2
      cases z2
  obtain ⟨j1, j2⟩ := hJ i G2 H2 g12.g g12.gh
  cases hd : ds[i]? with
  | none =>
    refine .inl ⟨j2 hd, ?_⟩
    have ei : ds.drop i = [] := List.drop_eq_nil_of_le (List.getElem?_eq_none_iff.mp hd)
    rw [ei] at hr
    cases hr
    rw [List.append_nil] at ht
    subst ht
    have z := h1 G2 _ g2 D aV hDn rA
    rw [e2] at z
    exact z
  | some d =>
    have hlt : i < ds.length := (List.getElem?_eq_some_iff.mp hd).1
    have ed : ds.drop i = d :: ds.drop (i + 1) := by
      rw [List.drop_eq_getElem_cons hlt]
      rw [List.getElem?_eq_getElem hlt] at hd
      rw [Option.some.inj hd]
    rw [ed] at hr
    obtain ⟨E1, he1, hr⟩ := Rs.bind_okI hr
    have he1 := Rs.of_okI he1
    obtain ⟨b, hb, hr⟩ := Rs.bind_okI hr
    obtain ⟨jg, jy⟩ := j1 d hd
    refine .inr ⟨jg, fun H' => (fun m' => m' = ds.length - (i + 1) ∧ i + 1 ≤ ds.length ∧ ∃ (G2 : Hp) (aD : List Dt) (aV : List V) (r : List Dt), Gr G1 H1 G2 (fun b => if b = D then none else H' b) ∧ H' D = some (.lst aV) ∧ DenL X.K G2 aD aV ∧ aV.length ≤ i + 1 ∧
      lcR t ft fe (wipeE E own) (ds.drop (i + 1)) = .ok r ∧ total = aD ++ r) (ds.length - (i + 1)), fun H' hN => ⟨_, by omega, hN⟩, fun v H3 hy => ?_⟩
    obtain ⟨G3, g3, rv⟩ := jy v H3 hy
    have x3 : EnvOk X'.fx B G3 H3 (wipeE E own) (L2.wipe σ own) := ((x2.grow g3).wipe own).to hK hne
    -- what a later heap gives for the next turn
    have next : ∀ {G4 H4 : Hp} {bD : List Dt} {bV : List V} {r2 : List Dt}, Gr G3 H3 G4 H4 → DenL X.K G4 bD bV → bV.length ≤ i + 1 → lcR t ft fe (wipeE E own) (ds.drop (i + 1)) = .ok r2 → total = bD ++ r2 →
        ∃ (G5 : Hp) (aD : List Dt) (aV : List V) (r : List Dt), Gr G1 H1 G5 (fun b => if b = D then none else (upd H4 D (.lst bV)) b) ∧ (upd H4 D (.lst bV)) D = some (.lst aV) ∧ DenL X.K G5 aD aV ∧ aV.length ≤ i + 1 ∧
          lcR t ft fe (wipeE E own) (ds.drop (i + 1)) = .ok r ∧ total = aD ++ r := by
      intro G4 H4 bD bV r2 g4 rb hb hr2 ht2
      have g := g12.trans (g3.trans g4)
      have nD4 : G4 D = none := (g3.trans g4).fr D (by rw [hD2]; exact fun z => nomatch z) nD
      have e : (fun b => if b = D then none else (upd H4 D (.lst bV)) b) = fun b => if b = D then none else H4 b := by
        funext b
        by_cases hb : b = D
        · rw [if_pos hb, if_pos hb]
        · rw [if_neg hb, if_neg hb, upd_ne hb]
      refine ⟨G4, bD, bV, r2, ?_, upd_same, rb, hb, hr2, ht2⟩
      rw [e]
      refine ⟨fun b o q => ?_, g.g, fun b o q => ?_, fun p a c => g.fr p a c⟩
      · have hb : b ≠ D := ne_of_none q hD
        show (if b = D then none else H4 b) = some o
        rw [if_neg hb]
        exact g.h _ _ q
      · have hb : b ≠ D := fun z => by
          rw [z, nD4] at q
          cases q
        show (if b = D then none else H4 b) = some o
        rw [if_neg hb]
        exact g4.gh _ _ q
    have rv' : Den X'.fx.K G3 d v := by rw [show X'.fx.K = X.K from hK]; exact rv
    have eg : t.g X'.fx.K = t.g X.K := by rw [show X'.fx.K = X.K from hK]
    rw [← eg]
    refine tg_of x3 rv' he1 fun σ2 x4 hw => ⟨?_, ?_⟩
    · rw [hw own hids]
      have idem : ∀ {vs ws : List Nat} {σ : St}, (∀ i ∈ vs, i ∈ ws) → L2.wipe (L2.wipe σ vs) ws = L2.wipe σ ws := by
        intro vs
        induction vs with
        | nil => intro ws σ _; rfl
        | cons v vs ih =>
          intro ws σ h
          show L2.wipe ((L2.wipe σ vs).set v none) ws = _
          rw [wipe_setIn (h v List.mem_cons_self)]
          exact ih fun i hi => h i (List.mem_cons_of_mem _ hi)
      exact idem fun i h => h
    · refine ⟨B, G3, E1, x4, ?_⟩
      rw [hb]
      intro G4 H4 g4
      have hD4 : H4 D = some (.lst aV) := (g3.h.trans g4.h) _ _ hD2
      cases b with
      | false =>
        refine iteF ?_
        have hr : lcR t ft fe (wipeE E own) (ds.drop (i + 1)) = .ok r := hr
        have z := next g4 (rA.mono (g3.g.trans g4.g)) (Nat.le_succ_of_le hA) hr ht
        have e4 : upd H4 D (.lst aV) = H4 := by
          funext b
          by_cases hb : b = D
          · rw [hb, upd_same, hD4]
          · rw [upd_ne hb]
        rw [e4] at z
        exact ⟨rfl, hlt, z⟩
      | true =>
        refine iteT ?_
        have hr : ((fe E1).bind fun y => (lcR t ft fe (wipeE E own) (ds.drop (i + 1))).bind fun r => .ok (y :: r)) = .ok r := hr
        obtain ⟨y, hy, hr⟩ := Rs.bind_okI hr
        obtain ⟨r2, hr2, hr⟩ := Rs.bind_okI hr
        cases hr
        refine ⟨B, G4, E1, x4.grow g4, ?_⟩
        rw [hy]
        intro G5 H5 g5 u ru
        rw [hK] at ru
        have hD5 : H5 D = some (.lst aV) := g5.h _ _ hD4
        refine ⟨aV, hD5, Nat.lt_of_lt_of_le (Nat.lt_of_le_of_lt hA hlt) (line_ge hl), rfl, hlt, ?_⟩
        exact next (g4.trans g5) ((rA.mono (g3.g.trans (g4.g.trans g5.g))).append (.cons ru .nil)) (by rw [List.length_append]; exact Nat.succ_le_succ hA) hr2 (by rw [List.append_assoc]; exact ht)
/-- [elt for tg in iter if ..] -/
theorem pox_lc {elt tg iter : Expr} {ifs : List Expr} {scope : Scope} {own : List (Str × Nat)} {pos : Pos} {fi : Ev → Rs (List Dt)} {t : Tg} {ft : Ev → Rs Bool} {fe : Ev → Rs Dt} (hc : X.calm = true) (hN : X.N.Nodup) (hi : PIX X W tg iter fi) (ok : BlkOk X.N X.env.scope scope own)
    (hg : ∀ (s : Shared) (H : Hp) (C : Addr) (cl : List (Str × Addr)) (fp : List Addr), PG (X.blk s H scope (compEnvC scope cl C X.env) fp) tg (t.g X.K))
    (ht : ∀ (s : Shared) (H : Hp) (C : Addr) (cl : List (Str × Addr)) (fp : List Addr), PTSX (X.blk s H scope (compEnvC scope cl C X.env) fp) W0 ifs ft)
    (he : ∀ (s : Shared) (H : Hp) (C : Addr) (cl : List (Str × Addr)) (fp : List Addr), PX (X.blk s H scope (compEnvC scope cl C X.env) fp) W0 elt fe)
    (hids : ∀ i ∈ t.ids, i ∈ own.map (·.2)) (hs : ∀ x, foldedSetIterable iter X.env x = pure x := by intro _; rfl) :
    POX X W (.ListComp elt [⟨tg, iter, ifs, 0⟩] scope pos) (oLc fi (own.map (·.2)) t ft fe) :=
  ⟨PE.imp (pe_lc (tt := TR { X with pn := [] } W0 ft) (te := XR { X with pn := [] } W0 fe) hc hN hi.pi ok hg (fun s H C cl fp => (ht s H C cl fp).pts) (fun s H C cl fp => (he s H C cl fp).pe) hs) fun σ H Q h => lc_of (X := X) (X' := { X with pn := [] }) rfl rfl hids h⟩
end
end PL
/-! The plain layer: statements. -/
namespace PL
open PySem L2
open PyProof.Rows hiding St
/-- a statement's end -/
inductive So where
  | nx (E : Ev) | rt (d : Dt) | bk (E : Ev) | ct (E : Ev) | er (x : Ex) (E : Ev) | bad
/-- the frozen part grew; nothing of the base came new into it -/
structure Xt (B G G' : Hp) : Prop where
  g : Same G G'
  fr : ∀ p, B p ≠ none → G p = none → G' p = none
theorem Xt.refl {B G : Hp} : Xt B G G := ⟨.refl _, fun _ _ h => h⟩
theorem Xt.trans {B G G1 G2 : Hp} (a : Xt B G G1) (b : Xt B G1 G2) : Xt B G G2 := ⟨a.g.trans b.g, fun p h g => b.fr p h (a.fr p h g)⟩
theorem Gr.xt {B G H G' H' : Hp} (r : Gr G H G' H') (s : Same B H) : Xt B G G' := ⟨r.g, fun p h g => r.fr p (someOf s h) g⟩
def Fin (X : Cx) (W : WX) (B G : Hp) (D : Ends) : So → Prop
  | .nx E => ∀ σ G' H, Xt B G G' → EnvOk X.fx B G' H E σ → D.nx σ H
  | .bk E => ∀ σ G' H, Xt B G G' → EnvOk X.fx B G' H E σ → D.bk σ H
  | .ct E => ∀ σ G' H, Xt B G G' → EnvOk X.fx B G' H E σ → D.ct σ H
  | .rt d => ∀ v G' H, Xt B G G' → Same B H → Same G' H → Den X.K G' d v → D.rt v H
  | .er x E => ∀ C dx σ G' H, Xt B G G' → EnvOk X.fx B G' H E σ → ExIs X.mg X.K G' x C dx → W C dx σ H
  | .bad => False
def SR (X : Cx) (W : WX) (g : Ev → So) : TS := fun D σ H => ∃ B G E, EnvOk X.fx B G H E σ ∧ Fin X W B G D (g E)
structure PSX (X : Cx) (W : WX) (st : Stmt) (g : Ev → So) : Prop where
  ps : PS X st (SR X W g)
structure PSSX (X : Cx) (W : WX) (st : List Stmt) (g : Ev → So) : Prop where
  ps : PSs X st (SR X W g)
theorem Fin.grow {X : Cx} {W : WX} {B G G1 : Hp} {D : Ends} {r : So} (x : Xt B G G1) (h : Fin X W B G D r) : Fin X W B G1 D r := by
  cases r with
  | nx E => exact fun σ G' H y e => h σ G' H (x.trans y) e
  | bk E => exact fun σ G' H y e => h σ G' H (x.trans y) e
  | ct E => exact fun σ G' H y e => h σ G' H (x.trans y) e
  | rt d => exact fun v G' H y a b c => h v G' H (x.trans y) a b c
  | er z E => exact fun C dx σ G' H y e q => h C dx σ G' H (x.trans y) e q
  | bad => exact h
/-- from an expression's end on -/
def Rs.so {α : Type} (E : Ev) (r : Rs α) (f : α → So) : So := match r with
  | .ok a => f a
  | .err x => .er x E
  | .bad => .bad
@[simp] theorem Rs.so_ok {α : Type} (E : Ev) (a : α) (f : α → So) : (Rs.ok a).so E f = f a := (rfl)
@[simp] theorem Rs.so_err {α : Type} (E : Ev) (x : Ex) (f : α → So) : (Rs.err x : Rs α).so E f = .er x E := (rfl)
@[simp] theorem Rs.so_bad {α : Type} (E : Ev) (f : α → So) : (Rs.bad : Rs α).so E f = .bad := (rfl)
def sNop (E : Ev) : So := .nx E
def sSeq (a b : Ev → So) (E : Ev) : So := match a E with
  | .nx E1 => b E1
  | .rt d => .rt d
  | .bk E1 => .bk E1
  | .ct E1 => .ct E1
  | .er x E1 => .er x E1
  | .bad => .bad
def sRet (f : Ev → Rs Dt) (E : Ev) : So := (f E).so E .rt
def sRetN (_ : Ev) : So := .rt .non
def sBrk (E : Ev) : So := .bk E
def sCnt (E : Ev) : So := .ct E
def sSet (i : Nat) (f : Ev → Rs Dt) (E : Ev) : So := (f E).so E fun d => .nx (E.set i (.val d))
def sTgt (t : Tg) (f : Ev → Rs Dt) (E : Ev) : So := (f E).so E fun d => match t.go d E with
  | some E1 => .nx E1
  | none => .bad
def sOwn (i : Nat) (o : Ev → Rs (List Dt)) (E : Ev) : So := (o E).so E fun l => .nx (E.set i (.own l))
def sIf (c : Ev → Rs Bool) (a b : Ev → So) (E : Ev) : So := (c E).so E fun k => if k = true then a E else b E
def sDrop (f : Ev → Rs Dt) (E : Ev) : So := (f E).so E fun _ => .nx E
/-- x.append(f) of one's own list -/
def sApp (i : Nat) (f : Ev → Rs Dt) (E : Ev) : So := match E[i]? with
  | some (.own l) => (f E).so E fun d => if l.length < 1000000 then .nx (E.set i (.own (l ++ [d]))) else .bad
  | _ => .bad
/-- x[j] = f of one's own list -/
def sPut (i : Nat) (fj f : Ev → Rs Dt) (E : Ev) : So := match E[i]? with
  | some (.own l) => (f E).so E fun d => (fj E).so E fun j => match j with
    | .int k => match ixN l.length k with
      | some n => .nx (E.set i (.own (l.set n d)))
      | none => .bad
    | _ => .bad
  | _ => .bad
/-- one's own list is one's own no more -/
def sFz (i : Nat) (E : Ev) : So := match E[i]? with
  | some (.own l) => .nx (E.set i (.val (.lst l)))
  | some (.val d) => .nx E
  | _ => .bad
/-- behind a turn's body -/
def turn (r : So) (k : Ev → So) : So := match r with
  | .nx E => k E
  | .ct E => k E
  | .bk E => .nx E
  | .rt d => .rt d
  | .er x E => .er x E
  | .bad => .bad
@[simp] theorem turn_nx (E : Ev) (k : Ev → So) : turn (.nx E) k = k E := (rfl)
@[simp] theorem turn_ct (E : Ev) (k : Ev → So) : turn (.ct E) k = k E := (rfl)
@[simp] theorem turn_bk (E : Ev) (k : Ev → So) : turn (.bk E) k = .nx E := (rfl)
@[simp] theorem turn_rt (d : Dt) (k : Ev → So) : turn (.rt d) k = .rt d := (rfl)
@[simp] theorem turn_er (x : Ex) (E : Ev) (k : Ev → So) : turn (.er x E) k = .er x E := (rfl)
@[simp] theorem turn_bad (k : Ev → So) : turn .bad k = .bad := (rfl)
def forL (t : Tg) (g : Ev → So) : List Dt → Ev → So
  | [], E => .nx E
  | d :: ds, E => match t.go d E with
    | none => .bad
    | some E1 => turn (g E1) (forL t g ds)
def sFor (fi : Ev → Rs (List Dt)) (t : Tg) (g : Ev → So) (E : Ev) : So := (fi E).so E fun ds => forL t g ds E
def whileN (c : Ev → Rs Bool) (g : Ev → So) : Nat → Ev → So
  | 0, _ => .bad
  | n + 1, E => (c E).so E fun b => if b = true then turn (g E) (whileN c g n) else .nx E
def FUEL : Nat := 1000000
def sWhile (c : Ev → Rs Bool) (g : Ev → So) (E : Ev) : So := whileN c g FUEL E

section
variable {X : Cx} {W : WX} {st : Stmt} {sts : List Stmt} {e c : Expr} {f fj : Ev → Rs Dt} {g g1 g2 : Ev → So} {o : Ev → Rs (List Dt)} {tc : Ev → Rs Bool} {pos pos' : Pos} {σ : St} {H B G : Hp} {E : Ev} {D : Ends}
theorem fin_so {α : Type} {r : Rs α} {k : α → So} (x : EnvOk X.fx B G H E σ) (h : Fin X W B G D (r.so E k)) : After X W σ G H r fun a G' _ => Fin X W B G' D (k a) := by
  cases r with
  | ok a => exact fun G' H' gr => Fin.grow (gr.xt x.bh) h
  | err z => exact fun C dx G' H' gr q => h C dx σ G' H' (gr.xt x.bh) (x.grow gr) q
  | bad => exact h
theorem xr_so {k : Dt → So} {Q : VK} (x : EnvOk X.fx B G H E σ) (h : Fin X W B G D ((f E).so E k)) (q : ∀ d v G' H', Gr G H G' H' → EnvOk X.fx B G' H' E σ → Den X.K G' d v → Fin X W B G' D (k d) → Q v H') : XR X W f σ H Q :=
  ⟨B, G, E, x, (fin_so x h).imp fun d G' H' gr a v r => q d v G' H' gr (x.grow gr) r a⟩
theorem tr_so {k : Bool → So} {Q : Bool → Hp → Prop} (x : EnvOk X.fx B G H E σ) (h : Fin X W B G D ((tc E).so E k)) (q : ∀ b G' H', Gr G H G' H' → EnvOk X.fx B G' H' E σ → Fin X W B G' D (k b) → Q b H') : TR X W tc σ H Q :=
  ⟨B, G, E, x, (fin_so x h).imp fun b G' H' gr a => q b G' H' gr (x.grow gr) a⟩
theorem ar_so {fs : Ev → Rs (List Dt)} {k : List Dt → So} {Q : List V → Hp → Prop} (x : EnvOk X.fx B G H E σ) (h : Fin X W B G D ((fs E).so E k)) (q : ∀ ds vs G' H', Gr G H G' H' → EnvOk X.fx B G' H' E σ → DenL X.K G' ds vs → Fin X W B G' D (k ds) → Q vs H') : AR X W fs σ H Q :=
  ⟨B, G, E, x, (fin_so x h).imp fun ds G' H' gr a vs r => q ds vs G' H' gr (x.grow gr) r a⟩
/-! blocks -/
theorem pssx_nil : PSSX X W [] sNop := ⟨PSs.imp pss_nil fun D σ H ⟨B, G, E, x, h⟩ => h σ G H .refl x⟩
theorem seq_of (h : SR X W (sSeq g1 g2) D σ H) : SR X W g1 { D with nx := SR X W g2 D } σ H := by
  obtain ⟨B, G, E, x, h⟩ := h
  refine ⟨B, G, E, x, ?_⟩
  unfold sSeq at h
  cases z : g1 E with
  | nx E1 =>
    rw [z] at h
    exact fun σ' G' H' y e => ⟨B, G', E1, e, Fin.grow y h⟩
  | rt d => rw [z] at h; exact h
  | bk E1 => rw [z] at h; exact h
  | ct E1 => rw [z] at h; exact h
  | er q E1 => rw [z] at h; exact h
  | bad => rw [z] at h; exact h
theorem pssx_cons (h1 : PSX X W st g1) (h2 : PSSX X W sts g2) : PSSX X W (st :: sts) (sSeq g1 g2) := ⟨PSs.imp (pss_cons h1.ps h2.ps) fun D σ H h => seq_of h⟩
theorem pssx_one (h1 : PSX X W st g1) : PSSX X W [st] g1 := ⟨pss_one h1.ps⟩
/-- a step of the proof's own ahead of a block -/
theorem pssx_pre (hp : ∀ D σ H, SR X W g1 D σ H → D.nx σ H) (h2 : PSSX X W sts g2) : PSSX X W sts (sSeq g1 g2) := ⟨PSs.imp h2.ps fun D σ H h => hp { D with nx := SR X W g2 D } σ H (seq_of h)⟩
/-! small statements -/
theorem psx_pass : PSX X W (.Pass pos) sNop := ⟨PS.imp ps_pass fun D σ H ⟨B, G, E, x, h⟩ => h σ G H .refl x⟩
theorem psx_brk : PSX X W (.Break pos) sBrk := ⟨PS.imp ps_break fun D σ H ⟨B, G, E, x, h⟩ => h σ G H .refl x⟩
theorem psx_cnt : PSX X W (.Continue pos) sCnt := ⟨PS.imp ps_continue fun D σ H ⟨B, G, E, x, h⟩ => h σ G H .refl x⟩
theorem psx_retN : PSX X W (.Return none pos) sRetN := ⟨PS.imp ps_retN fun D σ H ⟨B, G, E, x, h⟩ => h _ G H .refl x.bh x.gh .non⟩
theorem psx_ret (h : PX X W e f) : PSX X W (.Return (some e) pos) (sRet f) :=
  ⟨PS.imp (ps_ret h.pe) fun D σ H ⟨B, G, E, x, h⟩ => xr_so x h fun d v G' H' gr x' r a => a v G' H' .refl x'.bh x'.gh r⟩
theorem psx_expr (h : PX X W e f) (hs : swapsWith e none pos.line X.env = pure false := by rfl) : PSX X W (.Expr e pos) (sDrop f) :=
  ⟨PS.imp (ps_expr h.pe hs) fun D σ H ⟨B, G, E, x, h⟩ => xr_so x h fun d v G' H' gr x' r a => a σ G' H' .refl x'⟩
theorem psx_if {a b : List Stmt} (hc : PTX X W c tc) (ha : PSSX X W a g1) (hb : PSSX X W b g2) : PSX X W (.If c a b pos) (sIf tc g1 g2) := by
  refine ⟨PS.imp (ps_if hc.pt ha.ps hb.ps) fun D σ H ⟨B, G, E, x, h⟩ => tr_so x h fun k G' H' gr x' a => ?_⟩
  cases k with
  | true => exact iteT ⟨B, G', E, x', a⟩
  | false => exact iteF ⟨B, G', E, x', a⟩
/-! stores -/
theorem set_of {i : Nat} (h : SR X W (sSet i f) D σ H) : tAsg (XR X W f) (gName i) D σ H := by
  obtain ⟨B, G, E, x, h⟩ := h
  exact xr_so x h fun d v G' H' gr x' r a => a _ G' H' .refl (x'.setVal r)
theorem psx_set {i : Nat} {x : Str} (h : PX X W e f) (hN : X.N.Nodup) (hi : X.N[i]? = some x) (hx : Loc X.env.scope x) (hs : swapsWith e (some (.Name x pos')) pos.line X.env = pure false := by rfl) (hf : X.fn x = true ∨ X.env.scope.names.lookup x = some .local := by first | exact .inl rfl | exact .inr rfl | assumption) :
    PSX X W (.Assign [.Name x pos'] e pos) (sSet i f) := ⟨PS.imp (ps_set hN hi hx h.pe hs hf) fun D σ H h => set_of h⟩
theorem psx_tgt {t : Tg} {tg : Expr} (h : PX X W e f) (hg : PG X tg (t.g X.K)) (hs : swapsWithSole [tg] e pos.line X.env = pure false := by rfl) (hw : swappedStores [tg] e X.env = pure none := by rfl)
    (h1 : (assignEach [tg] X.env).map (·.2) = [assign tg X.env] := by rfl) : PSX X W (.Assign [tg] e pos) (sTgt t f) := by
  refine ⟨PS.imp (ps_asg h.pe hg hs hw h1) fun D σ H ⟨B, G, E, x, h⟩ => xr_so x h fun d v G' H' gr x' r a => ?_⟩
  cases z : t.go d E with
  | none => rw [z] at a; exact a.elim
  | some E1 =>
    rw [z] at a
    exact tg_of (K := X.fx) x' r z fun σ' x2 _ => a σ' G' H' .refl x2
theorem EnvOk.newOwn {K : Fx} {l : List Dt} {p : Addr} {vs : List V} {i : Nat} (x : EnvOk K B G H E σ) (n : H p = none) (r : DenL K.K G l vs) : EnvOk K B G (upd H p (.lst vs)) (E.set i (.own l)) (σ.set i (some (.ref p))) := by
  have z := Gr.newH (o := .lst vs) x.gh n
  have nb : B p = none := by
    cases z : B p with
    | none => rfl
    | some o => have z2 := x.bh _ _ z; rw [n] at z2; cases z2
  have ng : G p = none := by
    cases z : G p with
    | none => rfl
    | some o => have z2 := x.gh _ _ z; rw [n] at z2; cases z2
  refine x.put (F' := [p]) (x.bh.trans z.h) (.refl _) z.gh ⟨p, vs, rfl, rfl, upd_same, r⟩ fun F f => ⟨fun a h => ?_, fun j a hj ha => ?_⟩
  · rw [List.mem_singleton] at h
    subst h
    exact ⟨nb, ng, by rw [upd_same]; exact fun z => nomatch z⟩
  · have hp : a ≠ p := fun z => (f.fr j a ha).2.2 (by rw [z]; exact n)
    exact ⟨fun z => hp (List.mem_singleton.mp z), (f.fr j a ha).2.1, upd_ne hp⟩
theorem own_of {i : Nat} (h : SR X W (sOwn i o) D σ H) : OR X W o σ H fun v H1 => gName i v σ H1 D.nx := by
  obtain ⟨B, G, E, x, h⟩ := h
  refine ⟨B, G, E, x, (fin_so x h).imp fun ds G' H' gr a p vs n r => ?_⟩
  exact a _ G' _ .refl ((x.grow gr).newOwn n r)
theorem lst_of {i : Nat} (h : SR X W (sSet i (eL o)) D σ H) : OR X W o σ H fun v H1 => gName i v σ H1 D.nx := by
  obtain ⟨B, G, E, x, h⟩ := h
  have h : Fin X W B G D ((o E).so E fun ds => .nx (E.set i (.val (.lst ds)))) := by
    unfold sSet eL at h
    cases z : o E with
    | ok d => rw [z] at h; exact h
    | err y => rw [z] at h; exact h
    | bad => rw [z] at h; exact h
  refine ⟨B, G, E, x, (fin_so x h).imp fun ds G' H' gr a p vs n r => ?_⟩
  have z := Gr.new (o := .lst vs) gr.gh n
  have x' := x.grow (gr.trans z)
  exact a _ _ _ (z.xt (x.bh.trans gr.h)) (x'.setVal (.lst upd_same (r.mono z.g)))
theorem psx_own {i : Nat} {x : Str} (h : POX X W e o) (hN : X.N.Nodup) (hi : X.N[i]? = some x) (hx : Loc X.env.scope x) (hs : swapsWith e (some (.Name x pos')) pos.line X.env = pure false := by rfl) (hf : X.fn x = true ∨ X.env.scope.names.lookup x = some .local := by first | exact .inl rfl | exact .inr rfl | assumption) :
    PSX X W (.Assign [.Name x pos'] e pos) (sOwn i o) := ⟨PS.imp (ps_set hN hi hx h.pe hs hf) fun D σ H h => own_of h⟩
/-- name = [..] on one line, the name a local -/
theorem psx_ownLc {i : Nat} {y : Str} {py : Pos} {elt tg iter : Expr} {ifs : List Expr} {scope : Scope} {own : List (Str × Nat)} {spos : Pos} {fi : Ev → Rs (List Dt)} {t : Tg} {ft : Ev → Rs Bool} {fe : Ev → Rs Dt} (hc : X.calm = true) (hN : X.N.Nodup) (hy : X.N[i]? = some y) (hyl : X.env.scope.names.lookup y = some .local)
    (hsw : swapsWith (.ListComp elt [⟨tg, iter, ifs, 0⟩] scope pos) (some (.Name y py)) spos.line X.env = pure true) (hi : PIX X W tg iter fi) (ok : BlkOk X.N X.env.scope scope own)
    (hg : ∀ (s : Shared) (H : Hp) (C : Addr) (cl : List (Str × Addr)) (fp : List Addr), PG (X.blk s H scope (compEnvC scope cl C X.env) fp) tg (t.g X.K))
    (ht : ∀ (s : Shared) (H : Hp) (C : Addr) (cl : List (Str × Addr)) (fp : List Addr), PTSX (X.blk s H scope (compEnvC scope cl C X.env) fp) W0 ifs ft)
    (he : ∀ (s : Shared) (H : Hp) (C : Addr) (cl : List (Str × Addr)) (fp : List Addr), PX (X.blk s H scope (compEnvC scope cl C X.env) fp) W0 elt fe)
    (hids : ∀ i ∈ t.ids, i ∈ own.map (·.2)) (hs : ∀ x, foldedSetIterable iter X.env x = pure x := by intro _; rfl) :
    PSX X W (.Assign [.Name y py] (.ListComp elt [⟨tg, iter, ifs, 0⟩] scope pos) spos) (sOwn i (oLc fi (own.map (·.2)) t ft fe)) :=
  ⟨PS.imp (ps_setLc (tt := TR { X with pn := [] } W0 ft) (te := XR { X with pn := [] } W0 fe) hc hN hy hyl hsw hi.pi ok hg (fun s H C cl fp => (ht s H C cl fp).pts) (fun s H C cl fp => (he s H C cl fp).pe) hs) fun D σ H h => lc_of (X := X) (X' := { X with pn := [] }) rfl rfl hids (own_of h)⟩
theorem psx_setLc {i : Nat} {y : Str} {py : Pos} {elt tg iter : Expr} {ifs : List Expr} {scope : Scope} {own : List (Str × Nat)} {spos : Pos} {fi : Ev → Rs (List Dt)} {t : Tg} {ft : Ev → Rs Bool} {fe : Ev → Rs Dt} (hc : X.calm = true) (hN : X.N.Nodup) (hy : X.N[i]? = some y) (hyl : X.env.scope.names.lookup y = some .local)
    (hsw : swapsWith (.ListComp elt [⟨tg, iter, ifs, 0⟩] scope pos) (some (.Name y py)) spos.line X.env = pure true) (hi : PIX X W tg iter fi) (ok : BlkOk X.N X.env.scope scope own)
    (hg : ∀ (s : Shared) (H : Hp) (C : Addr) (cl : List (Str × Addr)) (fp : List Addr), PG (X.blk s H scope (compEnvC scope cl C X.env) fp) tg (t.g X.K))
    (ht : ∀ (s : Shared) (H : Hp) (C : Addr) (cl : List (Str × Addr)) (fp : List Addr), PTSX (X.blk s H scope (compEnvC scope cl C X.env) fp) W0 ifs ft)
    (he : ∀ (s : Shared) (H : Hp) (C : Addr) (cl : List (Str × Addr)) (fp : List Addr), PX (X.blk s H scope (compEnvC scope cl C X.env) fp) W0 elt fe)
    (hids : ∀ i ∈ t.ids, i ∈ own.map (·.2)) (hs : ∀ x, foldedSetIterable iter X.env x = pure x := by intro _; rfl) :
    PSX X W (.Assign [.Name y py] (.ListComp elt [⟨tg, iter, ifs, 0⟩] scope pos) spos) (sSet i (eL (oLc fi (own.map (·.2)) t ft fe))) :=
  ⟨PS.imp (ps_setLc (tt := TR { X with pn := [] } W0 ft) (te := XR { X with pn := [] } W0 fe) hc hN hy hyl hsw hi.pi ok hg (fun s H C cl fp => (ht s H C cl fp).pts) (fun s H C cl fp => (he s H C cl fp).pe) hs) fun D σ H h => lc_of (X := X) (X' := { X with pn := [] }) rfl rfl hids (lst_of h)⟩
/-! one's own list is changed, is frozen -/
theorem own_at {K : Fx} {i : Nat} {l : List Dt} (x : EnvOk K B G H E σ) (e : E[i]? = some (.own l)) : ∃ (F : Nat → List Addr) (a : Addr) (vs : List V), Fpr K B G H E σ F ∧ F i = [a] ∧ σ[i]? = some (some (.ref a)) ∧ H a = some (.lst vs) ∧ DenL K.K G l vs := by
  obtain ⟨F, f⟩ := x.fp
  obtain ⟨a, vs, h1, h2, h3, h4⟩ := f.sl i _ e
  refine ⟨F, a, vs, f, h1, ?_, h3, h4⟩
  cases q : σ[i]? with
  | none => rw [q] at h2; cases h2
  | some o =>
    rw [q] at h2
    have h2 : o = some (.ref a) := h2
    rw [h2]
theorem set_same {σ : St} {i : Nat} {o : Option V} (h : σ[i]? = some o) : σ.set i o = σ := by
  obtain ⟨hi, e⟩ := List.getElem?_eq_some_iff.mp h
  rw [← e]
  exact List.set_getElem_self hi
theorem Fpr.one {K : Fx} {F : Nat → List Addr} {i : Nat} {a : Addr} (f : Fpr K B G H E σ F) (e : F i = [a]) : a ∈ F i := by rw [e]; exact List.mem_cons_self
/-- the list in slot i is given anew -/
theorem EnvOk.newL {K : Fx} {i : Nat} {l l' : List Dt} {a : Addr} {ws : List V} (x : EnvOk K B G H E σ) (e : E[i]? = some (.own l)) (e2 : σ[i]? = some (some (.ref a))) (r : DenL K.K G l' ws) :
    EnvOk K B G (upd H a (.lst ws)) (E.set i (.own l')) σ := by
  have key : ∀ F, Fpr K B G H E σ F → F i = [a] := fun F f => by
    obtain ⟨a2, vs2, h1, h2, _⟩ := f.sl i _ e
    rw [e2] at h2
    have h2 : some (V.ref a) = some (V.ref a2) := h2
    cases h2
    exact h1
  obtain ⟨F, f⟩ := x.fp
  obtain ⟨b1, b2, _⟩ := f.fr i a (f.one (key F f))
  have z := x.put (i := i) (s := .own l') (o := some (.ref a)) (F' := [a]) (G' := G) (H' := upd H a (.lst ws)) (fun b o q => by
      rw [upd_ne (ne_of_none q b1)]
      exact x.bh _ _ q) (.refl _) (fun b o q => by
      rw [upd_ne (ne_of_none q b2)]
      exact x.gh _ _ q) ⟨a, ws, rfl, rfl, upd_same, r⟩ fun F2 f2 => ⟨fun b h => by
        rw [List.mem_singleton] at h
        subst h
        exact ⟨b1, b2, by rw [upd_same]; exact fun z => nomatch z⟩, fun j b hj hb => by
        have hba : b ≠ a := fun z => hj (f2.inj j i b hb (by rw [z]; exact f2.one (key F2 f2)))
        exact ⟨fun z => hba (List.mem_singleton.mp z), (f2.fr j b hb).2.1, upd_ne hba⟩⟩
  rw [set_same e2] at z
  exact z
theorem EnvOk.freeze {K : Fx} {i : Nat} {l : List Dt} {a : Addr} {vs : List V} (x : EnvOk K B G H E σ) (e : E[i]? = some (.own l)) (e2 : σ[i]? = some (some (.ref a))) (e3 : H a = some (.lst vs)) (r : DenL K.K G l vs) :
    EnvOk K B (upd G a (.lst vs)) H (E.set i (.val (.lst l))) σ ∧ Xt B G (upd G a (.lst vs)) := by
  have key : ∀ F, Fpr K B G H E σ F → F i = [a] := fun F f => by
    obtain ⟨a2, vs2, h1, h2, _⟩ := f.sl i _ e
    rw [e2] at h2
    have h2 : some (V.ref a) = some (V.ref a2) := h2
    cases h2
    exact h1
  obtain ⟨F, f⟩ := x.fp
  obtain ⟨b1, b2, _⟩ := f.fr i a (f.one (key F f))
  have sg : Same G (upd G a (.lst vs)) := fun b o q => by
    rw [upd_ne (ne_of_none q b2)]
    exact q
  have z := x.put (i := i) (s := .val (.lst l)) (o := some (.ref a)) (F' := []) (G' := upd G a (.lst vs)) (H' := H) x.bh sg (fun b o q => by
      by_cases hb : b = a
      · subst hb
        rw [upd_same] at q
        cases q
        exact e3
      · rw [upd_ne hb] at q
        exact x.gh _ _ q) ⟨rfl, _, rfl, .lst upd_same (r.mono sg)⟩ fun F2 f2 => ⟨(fun b h => nomatch h), fun j b hj hb => by
        have hba : b ≠ a := fun z => hj (f2.inj j i b hb (by rw [z]; exact f2.one (key F2 f2)))
        exact ⟨(fun z => nomatch z), by rw [upd_ne hba]; exact (f2.fr j b hb).2.1, rfl⟩⟩
  rw [set_same e2] at z
  refine ⟨z, sg, fun p hp hg => ?_⟩
  rw [upd_ne fun z => hp (by rw [z]; exact b1)]
  exact hg
theorem fz_of {i : Nat} (h : SR X W (sFz i) D σ H) : D.nx σ H := by
  obtain ⟨B, G, E, x, h⟩ := h
  unfold sFz at h
  cases e : E[i]? with
  | none => rw [e] at h; exact h.elim
  | some s =>
    rw [e] at h
    cases s with
    | own l =>
      obtain ⟨F, a, vs, f, e1, e2, e3, r⟩ := own_at x e
      obtain ⟨y, xt⟩ := x.freeze e e2 e3 r
      exact h σ _ H xt y
    | val d => exact h σ G H .refl x
    | un => exact h.elim
    | own2 l => exact h.elim
    | exc l => exact h.elim
theorem pssx_fz {i : Nat} (h : PSSX X W sts g) : PSSX X W sts (sSeq (sFz i) g) := pssx_pre (fun D σ H h => fz_of h) h
/-- x.append(f) -/
theorem psx_app {i : Nat} {x : Str} {p p1 p2 : Pos} (hp : PE X (.Call (.Attribute (.Name x p) "append" p1) [e] [] p2) (tBM X.K "list" rAppend (tVar i) (tCons (XR X W f) tNil))) (hs : swapsWith (.Call (.Attribute (.Name x p) "append" p1) [e] [] p2) none pos.line X.env = pure false := by rfl) :
    PSX X W (.Expr (.Call (.Attribute (.Name x p) "append" p1) [e] [] p2) pos) (sApp i f) := by
  refine ⟨PS.imp (ps_expr hp hs) fun D σ H ⟨B, G, E, x, h⟩ => ?_⟩
  unfold sApp at h
  cases e : E[i]? with
  | none => rw [e] at h; exact h.elim
  | some s =>
    rw [e] at h
    cases s with
    | own l =>
      obtain ⟨F, a, vs, f', e1, e2, e3, r⟩ := own_at x e
      refine ⟨.ref a, e2, .inl ⟨rfl, _, .of e3⟩, ?_⟩
      refine xr_so x h fun d v G' H' gr x' rd hf => ?_
      by_cases hl : l.length < 1000000
      · rw [if_pos hl] at hf
        obtain ⟨F', a', vs', f'', e1', e2', e3', r'⟩ := own_at x' e
        rw [e2] at e2'
        cases e2'
        refine ⟨a, vs', v, rfl, rfl, e3', ?_, ?_⟩
        · rw [← r'.length]
          exact Nat.lt_of_lt_of_le hl (line_ge (Nat.le_refl _))
        · exact hf σ G' _ .refl (x'.newL e e2 (r'.append (.cons rd .nil)))
      · rw [if_neg hl] at hf
        exact hf.elim
    | val d => exact h.elim
    | un => exact h.elim
    | own2 l => exact h.elim
    | exc l => exact h.elim
/-- x[j] = f -/
theorem psx_put {i : Nat} {x : Str} {p p1 : Pos} {ej : Expr} (h : PX X W e f) (hj : PX X W ej fj) (hN : X.N[i]? = some x := by rfl) (hv : Vis X.env.scope x := by first | exact Or.inl rfl | exact Or.inr (Or.inl rfl) | exact Or.inr (Or.inr rfl)) (hd : (x == ("__debug__" : Str)) = false := by decide) (hcd : (x == ("__classdict__" : Str)) = false := by decide)
    (ha : ∀ v, assign (.Subscript (.Name x p) ej p1) X.env v = (do
      let ov ← holding [v] (eval (.Name x p) X.env)
      let iv ← holding [v, ov] (eval ej X.env)
      standAt p1
      holding [v, ov, iv] (setItem ov iv v)
      release [v, ov, iv] []) := by intro _; rfl)
    (hs : swapsWithSole [.Subscript (.Name x p) ej p1] e pos.line X.env = pure false := by rfl) (hw : swappedStores [.Subscript (.Name x p) ej p1] e X.env = pure none := by rfl)
    (h1 : (assignEach [.Subscript (.Name x p) ej p1] X.env).map (·.2) = [assign (.Subscript (.Name x p) ej p1) X.env] := by rfl) :
    PSX X W (.Assign [.Subscript (.Name x p) ej p1] e pos) (sPut i fj f) := by
  refine ⟨PS.imp (ps_asg h.pe (pg_sub (pe_var hN hv hd hcd) hj.pe set_list ha) hs hw h1) fun D σ H ⟨B, G, E, x, h⟩ => ?_⟩
  unfold sPut at h
  cases e : E[i]? with
  | none => rw [e] at h; exact h.elim
  | some s =>
    rw [e] at h
    cases s with
    | own l =>
      obtain ⟨F, a, vs, f', e1, e2, e3, r⟩ := own_at x e
      refine xr_so x h fun d v G' H' gr x' rd hf => ⟨.ref a, e2, ?_⟩
      refine xr_so x' hf fun j w G2 H2 gr2 x2 rj hf2 => ?_
      cases j with
      | int k =>
        cases rj
        cases hk : ixN l.length k with
        | none => simp only [hk] at hf2; exact hf2.elim
        | some n =>
          simp only [hk] at hf2
          obtain ⟨F', a', vs', f'', e1', e2', e3', r'⟩ := own_at x2 e
          rw [e2] at e2'
          cases e2'
          refine ⟨a, vs', k, n, rfl, rfl, e3', by rw [← r'.length]; exact hk, ?_⟩
          exact hf2 σ G2 _ .refl (x2.newL e e2 (r'.set (rd.mono gr2.g) n))
      | _ => exact hf2.elim
    | val d => exact h.elim
    | un => exact h.elim
    | own2 l => exact h.elim
    | exc l => exact h.elim
/-! loops -/
theorem psx_for {tg iter : Expr} {body : List Stmt} {fi : Ev → Rs (List Dt)} {t : Tg} (hp : PassesOwn (model X.prog X.w) X.A X.env X.xe) (hc : X.calm = true) (hi : PIX X W tg iter fi) (hg : PG X tg (t.g X.K)) (hb : PSSX X W body g)
    (hs : ∀ x, foldedSetIterable iter X.env x = pure x := by intro _; rfl) : PSX X W (.For tg iter body [] pos) (sFor fi t g) := by
  refine ⟨PS.imp (ps_for hp hc hi.pi hg hb.ps hs) fun D σ H ⟨B, G, E, x, h⟩ => ?_⟩
  refine ⟨B, G, E, x, (fin_so x h).imp fun ds G1 H1 g1 h1 J hJ => ?_⟩
  have x1 := x.grow g1
  generalize hr : forL t g ds E = r at h1
  refine ⟨fun i m σ2 H2 => m = ds.length - i ∧ i ≤ ds.length ∧ ∃ G2 E2, Xt B G1 G2 ∧ EnvOk X.fx B G2 H2 E2 σ2 ∧ forL t g (ds.drop i) E2 = r, ⟨_, rfl, Nat.zero_le _, G1, E, .refl, x1, by rw [List.drop_zero]; exact hr⟩, ?_⟩
  rintro i m σ2 H2 ⟨rfl, hi', G2, E2, xt, x2, hr2⟩
  obtain ⟨j1, j2⟩ := hJ i G2 H2 xt.g x2.gh
  cases hd : ds[i]? with
  | none =>
    refine .inl ⟨j2 hd, ?_⟩
    rw [List.drop_eq_nil_of_le (List.getElem?_eq_none_iff.mp hd)] at hr2
    have h1 := h1
    rw [← hr2] at h1
    exact h1 σ2 G2 H2 xt x2
  | some d =>
    have hlt : i < ds.length := (List.getElem?_eq_some_iff.mp hd).1
    have ed : ds.drop i = d :: ds.drop (i + 1) := by
      rw [List.drop_eq_getElem_cons hlt]
      rw [List.getElem?_eq_getElem hlt] at hd
      rw [Option.some.inj hd]
    rw [ed] at hr2
    obtain ⟨jg, jy⟩ := j1 d hd
    refine .inr ⟨jg, fun σ' H' => ds.length - (i + 1) = ds.length - (i + 1) ∧ i + 1 ≤ ds.length ∧ ∃ G2 E2, Xt B G1 G2 ∧ EnvOk X.fx B G2 H' E2 σ' ∧ forL t g (ds.drop (i + 1)) E2 = r, fun σ' H' hN => ⟨_, by omega, hN⟩, fun v H3 hy => ?_⟩
    obtain ⟨G3, g3, rv⟩ := jy v H3 hy
    have x3 := x2.grow g3
    have xt3 : Xt B G1 G3 := xt.trans (g3.xt x2.bh)
    have hr2 : (match t.go d E2 with
      | none => So.bad
      | some E1 => turn (g E1) (forL t g (ds.drop (i + 1)))) = r := hr2
    cases he : t.go d E2 with
    | none =>
      rw [he] at hr2
      rw [← hr2] at h1
      exact h1.elim
    | some E3 =>
      rw [he] at hr2
      have hr2 : turn (g E3) (forL t g (ds.drop (i + 1))) = r := hr2
      refine tg_of (K := X.fx) x3 rv he fun σ3 x4 _ => ⟨B, G3, E3, x4, ?_⟩
      have h3 : Fin X W B G3 D r := Fin.grow xt3 h1
      cases hg3 : g E3 with
      | nx E4 =>
        rw [hg3] at hr2
        exact fun σ' G' H' y e => ⟨rfl, hlt, G', E4, xt3.trans y, e, hr2⟩
      | ct E4 =>
        rw [hg3] at hr2
        exact fun σ' G' H' y e => ⟨rfl, hlt, G', E4, xt3.trans y, e, hr2⟩
      | bk E4 =>
        rw [hg3] at hr2
        rw [← hr2] at h3
        exact h3
      | rt d4 =>
        rw [hg3] at hr2
        rw [← hr2] at h3
        exact h3
      | er q E4 =>
        rw [hg3] at hr2
        rw [← hr2] at h3
        exact h3
      | bad =>
        rw [hg3] at hr2
        rw [← hr2] at h3
        exact h3
theorem psx_while {body : List Stmt} (hp : PassesOwn (model X.prog X.w) X.A X.env X.xe) (hc : PTX X W c tc) (hb : PSSX X W body g) : PSX X W (.While c body [] pos) (sWhile tc g) := by
  refine ⟨PS.imp (ps_while hp hc.pt hb.ps) fun D σ H ⟨B, G, E, x, h⟩ => ?_⟩
  unfold sWhile at h
  generalize FUEL = n at h
  refine ⟨fun m σ2 H2 => ∃ G2 E2, EnvOk X.fx B G2 H2 E2 σ2 ∧ Fin X W B G2 D (whileN tc g m E2), ⟨n, G, E, x, h⟩, ?_⟩
  rintro m σ2 H2 ⟨G2, E2, x2, h2⟩
  cases m with
  | zero => exact h2.elim
  | succ m =>
    have h2 : Fin X W B G2 D ((tc E2).so E2 fun b => if b = true then turn (g E2) (whileN tc g m) else .nx E2) := h2
    refine tr_so x2 h2 fun b G3 H3 gr x3 h3 => ?_
    cases b with
    | false => exact iteF (h3 σ2 G3 H3 .refl x3)
    | true =>
      have h3 : Fin X W B G3 D (turn (g E2) (whileN tc g m)) := h3
      refine iteT ⟨fun σ' H' => ∃ G2 E2, EnvOk X.fx B G2 H' E2 σ' ∧ Fin X W B G2 D (whileN tc g m E2), fun σ' H' hN => ⟨m, Nat.lt_succ_self m, hN⟩, B, G3, E2, x3, ?_⟩
      cases hg3 : g E2 with
      | nx E4 =>
        rw [hg3] at h3
        exact fun σ' G' H' y e => ⟨G', E4, e, Fin.grow y h3⟩
      | ct E4 =>
        rw [hg3] at h3
        exact fun σ' G' H' y e => ⟨G', E4, e, Fin.grow y h3⟩
      | bk E4 => rw [hg3] at h3; exact h3
      | rt d4 => rw [hg3] at h3; exact h3
      | er q E4 => rw [hg3] at h3; exact h3
      | bad => rw [hg3] at h3; exact h3
end
end PL
/-! The plain layer: defs and their calls, errors raised. -/
namespace PL
open PySem L2
open PyProof.Rows hiding St
/-! ### a def's promise -/
def SpEnd (K : PySem.W.Frag) (mg : Str → Option Value) (G H : Hp) (Q : VK) (E : XK) : Rs Dt → Prop
  | .ok d => ∀ v G' H', Gr G H G' H' → Den K G' d v → Q v H'
  | .err x => ∀ C dx G' H', Gr G H G' H' → ExIs mg K G' x C dx → E C dx H'
  | .bad => False
def spF (K : PySem.W.Frag) (mg : Str → Option Value) (n : Nat) (f : List Dt → Rs Dt) : Sp := fun vs H Q E => ∃ G ds, Same G H ∧ DenL K G ds vs ∧ ds.length = n ∧ SpEnd K mg G H Q E (f ds)
def startE (n : Nat) (ds : List Dt) : Ev := ds.map Sl.val ++ List.replicate (n - ds.length) Sl.un
/-- what a body gives -/
def runF (n : Nat) (g : Ev → So) (ds : List Dt) : Rs Dt := match g (startE n ds) with
  | .rt d => .ok d
  | .nx _ => .ok .non
  | .er x _ => .err x
  | _ => .bad
theorem start_ok {K : Fx} {G H : Hp} {N : List Str} {ds : List Dt} {vs : List V} (s : Same G H) (r : DenL K.K G ds vs) : EnvOk K H G H (startE N.length ds) (L2.start N vs) := by
  refine ⟨?_, .refl _, s, fun _ => [], ⟨fun i u e => ?_, (fun i j a h => nomatch h), (fun i a h => nomatch h)⟩⟩
  · unfold L2.start startE
    rw [List.length_append, List.length_append, List.length_map, List.length_map, List.length_replicate, List.length_replicate, r.length]
  · unfold startE at e
    by_cases hi : i < ds.length
    · rw [List.getElem?_append_left (by rw [List.length_map]; exact hi), List.getElem?_map] at e
      cases z : ds[i]? with
      | none => rw [z] at e; cases e
      | some d =>
        rw [z] at e
        cases e
        obtain ⟨v, hv, rv⟩ := r.get z
        refine ⟨rfl, v, ?_, rv⟩
        unfold L2.start
        rw [List.getElem?_append_left (by rw [List.length_map, ← r.length]; exact hi), List.getElem?_map, hv]
        rfl
    · rw [List.getElem?_append_right (by rw [List.length_map]; omega), List.getElem?_replicate] at e
      split at e
      · cases e
        exact rfl
      · cases e
theorem body_of {X : Cx} {K : PySem.W.Frag} {mg : Str → Option Value} {N : List Str} {n : Nat} {g : Ev → So} {vs : List V} {H : Hp} {Q : VK} {E : XK} (hK : X.K = K) (hm : X.mg = mg) (h : spF K mg n (runF N.length g) vs H Q E) :
    SR X (fun C d _ H => E C d H) g { nx := fun _ H' => Q .non H', rt := Q } (L2.start N vs) H := by
  subst hK
  subst hm
  obtain ⟨G, ds, s, r, hn, h⟩ := h
  refine ⟨H, G, startE N.length ds, start_ok (K := X.fx) s r, ?_⟩
  unfold runF at h
  cases z : g (startE N.length ds) with
  | nx E1 =>
    rw [z] at h
    exact fun σ G' H' y e => h .non G' H' ⟨e.bh, y.g, e.gh, y.fr⟩ .non
  | rt d =>
    rw [z] at h
    exact fun v G' H' y a b c => h v G' H' ⟨a, y.g, b, y.fr⟩ c
  | er x E1 =>
    rw [z] at h
    exact fun C dx σ G' H' y e q => h C dx G' H' ⟨e.bh, y.g, e.gh, y.fr⟩ q
  | bk E1 => rw [z] at h; exact h.elim
  | ct E1 => rw [z] at h; exact h.elim
  | bad => rw [z] at h; exact h.elim
section
variable {P : Program} {w : World} {K : PySem.W.Frag} {mg : Str → Option Value} {base : Heap}
theorem spF_len {n : Nat} {f : List Dt → Rs Dt} {ps : List Str} (hn : ps.length = n) : ∀ vs H Q E, spF K mg n f vs H Q E → vs.length = ps.length := by
  intro vs H Q E ⟨G, ds, s, r, e, _⟩
  rw [← r.length, e, hn]
/-- THE RULE for a def -/
theorem def_ok {x qual : Str} {st : Stmt} {f : Addr} {fd : FuncData} {N ps : List Str} {k n : Nat} {g : Ev → So} (F : Fun K x qual st f fd) (S : FnScope N ps (defScope st)) (hn : ps.length = n)
    (hbody : ∀ (cdv : Value) (A : Around) (outer : List Env) (s : Shared) (H : Hp) (E : XK), Room k (A.deeper (envOfC qual (defScope st) s.heap.objs.size f cdv)) →
      PSSX (cxOf (L2.CX P w) P w K mg base N qual (defScope st) f cdv A outer s H E) (fun C d _ H => E C d H) (defBody st) g) : FnOk P w K mg base (L2.CX P w) (k + 1) f fd ps (spF K mg n (runF N.length g)) :=
  F.okX S (spF_len hn) fun cdv A outer s H vs Q E hr h => ⟨_, (hbody cdv A outer s H E hr).ps, body_of rfl rfl h⟩
end
/-! ### calls -/
def eCall (n : Nat) (f : List Dt → Rs Dt) (a : Ev → Rs (List Dt)) (E : Ev) : Rs Dt := (a E).bind fun ds => if ds.length = n then f ds else .bad
section
variable {X : Cx} {W : WX} {k n : Nat} {f : Addr} {fd : FuncData} {ps : List Str} {x : Str} {p pos : Pos} {e : Expr} {es : List Expr} {fs : Ev → Rs (List Dt)} {fn : List Dt → Rs Dt} {σ : St} {G H : Hp} {Q : VK}
theorem spEnd_of {r : Rs Dt} (h : After X W σ G H r fun d G' H' => ∀ v, Den X.K G' d v → Q v H') : SpEnd X.K X.mg G H Q (WE W σ) r := by
  cases r with
  | ok d => exact fun v G' H' g r => h G' H' g v r
  | err y => exact fun C dx G' H' g q => h C dx G' H' g q
  | bad => exact h
theorem px_call (F : FnOk X.prog X.w X.K X.mg X.base (L2.CX X.prog X.w) k f fd ps (spF X.K X.mg n fn)) (hr : Room k X.A) (hm : X.mg x = some (.ref f)) (hk : PySem.W.keepIn X.K (.ref f) = true) (hb : Binds X.K fd ps []) (tk : Takes X W)
    (ha : PAX X W (e :: es) fs) (hg : Gl X x := by rfl) (hdb : (x == ("__debug__" : Str)) = false := by decide) (he : starEach (e :: es) X.env = (false, eval e X.env) :: starEach es X.env := by rfl) (hpl : (backTo pos (starEach es X.env)).any (·.1) = false := by rfl) :
    PX X W (.Call (.Name x p) (e :: es) [] pos) (eCall n fn fs) := by
  refine ⟨PE.imp (pe_callS F hr hg hm hk hb (fun σ => passAt tk σ) ha.pa hdb he hpl) fun σ H Q ⟨B, G, E, x, h⟩ => ?_⟩
  refine ar_bind x h fun ds vs G1 H1 g1 x1 r1 h1 => ?_
  by_cases hn : ds.length = n
  · rw [if_pos hn] at h1
    exact ⟨G1, ds, x1.gh, r1, hn, spEnd_of h1⟩
  · rw [if_neg hn] at h1
    exact h1.elim
end
/-! ### raise -/
def sRaise (c : Str) (names : List Str) (fs : Ev → Rs (List Dt)) (E : Ev) : So := (fs E).so E fun ds => if ds.length = names.length ∧ ds.length ≤ 1000 then .er ⟨c, (names.zip ds).reverse⟩ E else .bad
/-- what an error's __init__ promises: the fields -/
def spInit (K : PySem.W.Frag) (ok : Addr → Prop) (names : List Str) : Sp := fun vs H Q _ => ∃ (a C : Addr) (ws : List V), vs = .ref a :: ws ∧ ws.length = names.length ∧ OexC K C ∧ ok C ∧ (∀ n ∈ names, PySem.W.findIn K (.ref C) n = some none) ∧ H a = some (exo a C none) ∧
  ∀ d, H d = none → Q .non (upd (upd H d (exd d (names.zip ws).reverse)) a (exo a C (some d)))
theorem fields_den {K : PySem.W.Frag} {G : Hp} : ∀ {names : List Str} {ds : List Dt} {vs : List V}, DenL K G ds vs → ∃ l : List (Str × Dt × V), names.zip ds = l.map (fun p => (p.1, p.2.1)) ∧ names.zip vs = l.map (fun p => (p.1, p.2.2)) ∧ ∀ p ∈ l, Den K G p.2.1 p.2.2
  | [], _, _, _ => ⟨[], rfl, rfl, (fun p h => nomatch h)⟩
  | n :: ns, _, _, .nil => ⟨[], rfl, rfl, (fun p h => nomatch h)⟩
  | n :: ns, _, _, .cons (d := d) (v := v) r rs => by
    obtain ⟨l, h1, h2, h3⟩ := fields_den (names := ns) rs
    refine ⟨(n, d, v) :: l, by simp [h1], by simp [h2], fun p hp => ?_⟩
    rcases List.mem_cons.mp hp with e | hp
    · subst e
      exact r
    · exact h3 p hp
theorem lookup_par {K : PySem.W.Frag} {G : Hp} : ∀ {l : List (Str × Dt × V)}, (∀ p ∈ l, Den K G p.2.1 p.2.2) → ∀ f y, (l.map fun p => (p.1, p.2.1)).lookup f = some y → ∃ v, (l.map fun p => (p.1, p.2.2)).lookup f = some v ∧ Den K G y v
  | [], _, f, y, h => by cases h
  | p :: l, hp, f, y, h => by
    simp only [List.map_cons, List.lookup_cons] at h ⊢
    cases hf : f == p.1 with
    | true =>
      rw [hf] at h
      cases h
      exact ⟨_, rfl, hp p List.mem_cons_self⟩
    | false =>
      rw [hf] at h
      exact lookup_par (fun q hq => hp q (List.mem_cons_of_mem _ hq)) f y h
section
variable {X : Cx} {W : WX} {k : Nat} {fI C : Addr} {fd : FuncData} {ps names : List Str} {x : Str} {p pos pos' : Pos} {e : Expr} {es : List Expr} {fs : Ev → Rs (List Dt)}
theorem psx_raise {CX : CXT} (T : OexC X.K C) (iC : PySem.W.findIn X.K (.ref C) "__init__" = some (some (.ref fI))) (tI : PySem.W.typeIn X.K (.ref fI) = some (.type "function"))
    {ok : Addr → Prop} (F1 : FnOk X.prog X.w X.K X.mg X.base CX k fI fd ps (spInit X.K ok names)) (oC : ok C) (nf : ∀ n ∈ names, PySem.W.findIn X.K (.ref C) n = some none) (hr : Room (k + 1) X.A) (hb : Binds X.K fd ps []) (hx : Passes CX X (fun _ _ _ => False)) (hm : X.mg x = some (.ref C)) (tk : Takes X W) (hc : X.calm = true) (ha : PAX X W (e :: es) fs)
    (hg : Gl X x := by rfl) (hdb : (x == ("__debug__" : Str)) = false := by decide) (he : starEach (e :: es) X.env = (false, eval e X.env) :: starEach es X.env := by rfl) (hpl : (backTo pos (starEach es X.env)).any (·.1) = false := by rfl) :
    PSX X W (.Raise (some (.Call (.Name x p) (e :: es) [] pos)) none pos') (sRaise x names fs) := by
  refine ⟨PS.imp (ps_raise hc tk (pmk_oex T iC tI F1 hr hb .nil hx hg hm ha.pa hdb he hpl)) fun D σ H ⟨B, G, E, xe, h⟩ => ?_⟩
  refine ar_so xe h fun ds vs G1 H1 gr x1 r1 h1 => ?_
  by_cases hl : ds.length = names.length ∧ ds.length ≤ 1000
  · rw [if_pos hl] at h1
    refine ⟨by rw [← r1.length]; exact hl.2, fun a na => ?_⟩
    refine ⟨a, C, vs, by rw [List.append_nil], by rw [← r1.length]; exact hl.1, T, oC, nf, upd_same, fun d hd => ?_⟩
    have hda : d ≠ a := fun z => by
      rw [z, upd_same] at hd
      cases hd
    have hd1 : H1 d = none := by
      rw [upd_ne hda] at hd
      exact hd
    refine ⟨rfl, d, _, upd_same, by rw [upd_ne hda, upd_same], hd1, ?_⟩
    have eH : upd (del (upd (upd (upd H1 a (exo a C none)) d (exd d (names.zip vs).reverse)) a (exo a C (some d))) a) d (.xd (names.zip vs).reverse) = upd H1 d (.xd (names.zip vs).reverse) := by
      funext b
      by_cases hb : b = d
      · rw [hb, upd_same, upd_same]
      · rw [upd_ne hb, upd_ne hb]
        by_cases hba : b = a
        · rw [hba, del_same, na]
        · rw [del_ne hba, upd_ne hba, upd_ne hb, upd_ne hba]
    rw [eH]
    have g := Gr.new (o := .xd (names.zip vs).reverse) x1.gh hd1
    refine h1 _ _ σ _ _ (g.xt x1.bh) (x1.grow g) ⟨⟨C, hm, rfl⟩, .inr ⟨d, _, rfl, upd_same, ?_⟩⟩
    obtain ⟨l, e1, e2, e3⟩ := fields_den (names := names) (r1.mono g.g)
    have key := lookup_par (l := l.reverse) fun p hp => e3 p (List.mem_reverse.mp hp)
    rw [List.map_reverse, List.map_reverse, ← e1, ← e2] at key
    exact key
  · rw [if_neg hl] at h1
    exact h1.elim
end
/-! an error of a class without fields: X('..') -/
def sRaise0 (c : Str) (E : Ev) : So := .er ⟨c, []⟩ E
theorem psx_raise0 {X : Cx} {W : WX} {x m : Str} {j : Nat} {p p2 pos pos' : Pos} {C : Addr} {bmB : List Value} {B newId initId : String} (F : ExcBaseFacts B newId initId bmB) (q : PySem.W.excIn X.K C bmB newId = true) (gC : X.mg x = some (.ref C)) (kC : PySem.W.keepIn X.K (.ref C) = true) (r : Raises X (.ref C)) (tk : Takes X W) (hc : X.calm = true)
    (hg : Gl X x := by rfl) (hdb : (x == ("__debug__" : Str)) = false := by decide) : PSX X W (.Raise (some (.Call (.Name x p) [.Constant (.str m) j p2] [] pos)) none pos') (sRaise0 x) :=
  ⟨PS.imp (ps_raise hc tk (pmk_own F q gC kC r hg hdb)) fun D σ H ⟨B, G, E, xe, h⟩ => h _ _ σ G H .refl xe ⟨⟨C, gC, rfl⟩, .inl ⟨rfl, rfl⟩⟩⟩
end PL
set_option maxHeartbeats 1000000
/-! The plain layer: an error's __init__ that says super().__init__('..'). -/
namespace PL
open PySem L2
open PyProof.Rows hiding St
/-- what the written part says of the class at C, over the class at D in whose body the __init__ stands -/
structure SupC (K : PySem.W.Frag) (D C : Addr) : Prop where
  mr : PySem.W.mroIn K C (.ref D) = some true
  sup : PySem.W.ks_superIn K C D "__init__" = some (some (.builtin "ValueError.__init__"))
  ve : PySem.W.subIn K (.ref C) (.type "ValueError") = some true
/-- the __init__ -/
structure SupF (P : Program) (K : PySem.W.Frag) (fI cc cda D : Addr) (qual : Str) : Prop where
  code : ∃ ccl cdd vs ccs file tf, K.lookup cda = some ⟨ccl, cdd, .fields vs, ccs⟩ ∧ vs[2]? = some (.str file tf) ∧ ((P.main.file : Str) == file) = true
  cd : PySem.W.codeIn K (.ref cda) qual = true
  cell : ∃ cl cld csl, K.lookup cc = some ⟨cl, cld, .cell (some (.ref D)), csl⟩
  cls : PySem.W.isClsIn K D = true
  top : (P.main.scope.names.lookup ("super" : Str)).isSome = false
  noTP : PySem.W.nsIn K cStatics "thirdparty.any" = some none
section
variable {P : Program} {w : World} {K : PySem.W.Frag} {mg : Str → Option Value} {base : Heap} {CX : CXT} {fI cc cda D : Addr} {name qual : Str} {params : Arguments} {rest : List Stmt} {scope : Scope} {dV kV doc pm ct oc : Value} {an od : Option Addr} {osl : Array (Option Value)}
  {N ps names : List Str} {k : Nat} {p0 p1 p2 p3 p4 p5 : Pos} {m : Str} {j : Nat} {ar : Arg}
abbrev supSt (p0 p1 p2 p3 p4 p5 : Pos) (m : Str) (j : Nat) : Stmt := .Expr (.Call (.Attribute (.Call (.Name "super" p0) [] [] p1) "__init__" p2) [.Constant (.str m) j p3] [] p4) p5
abbrev supFn (name qual : Str) (params : Arguments) (body : List Stmt) (scope : Scope) (dV kV doc pm : Value) (an : Option Addr) (cda : Addr) (ct : Value) (cc : Addr) : FuncData := PySem.W.ksFn name qual params body scope dV kV doc pm an (.ref cda) ct cc
abbrev supNF (name qual : Str) (params : Arguments) (body : List Stmt) (scope : Scope) (cda cc : Addr) : NdefX.NF := ⟨name, qual, params, body, scope, [("__class__", cc)], cda⟩
theorem init_of (T : SupF P K fI cc cda D qual) (lk : K.lookup fI = some ⟨oc, od, .func (supFn name qual params (supSt p0 p1 p2 p3 p4 p5 m j :: rest) scope dV kV doc pm an cda ct cc), osl⟩)
    (S : NdefX.NScope N ps ["__class__"] scope) (har : (params.posonlyargs ++ params.args).head? = some ar) (hps : ps[0]? = some ar.arg) {pl : Env → Sem Bool} (he : ∀ env : Env, eval (.Call (.Attribute (.Call (.Name "super" p0) [] [] p1) "__init__" p2) [.Constant (.str m) j p3] [] p4) env = (do
      let ov ← attributeBase (.Call (.Name "super" p0) [] [] p1) "__init__" env (eval (.Call (.Name "super" p0) [] [] p1) env)
      standAt p2.atName
      let (f, first) ← holding [ov] (getMethod ov "__init__" (pl env))
      callWith p4 f first (backTo p4 (starEach [.Constant (.str m) j p3] env)) [])) (hms : mg "super" = none) (hks : scope.names.lookup ("super" : Str) = some .globalImplicit) (sp : Sp)
    (len : ∀ vs H Q E, sp vs H Q E → vs.length = ps.length)
    (obj : ∀ vs H Q E, sp vs H Q E → ∃ a C, vs[0]? = some (.ref a) ∧ OexC K C ∧ SupC K D C ∧ H a = some (exo a C none))
    (hrest : ∀ (A : Around) (outer : List Env) (s : Shared) (H : Hp) (vs : List V) (Q : VK) (E : XK), Room k (A.deeper (NdefX.envF (supNF name qual params (supSt p0 p1 p2 p3 p4 p5 m j :: rest) scope cda cc) fI s.heap.objs.size)) → sp vs H Q E →
      ∃ t, PSs (NdefX.ncx CX P w K mg base N (supNF name qual params (supSt p0 p1 p2 p3 p4 p5 m j :: rest) scope cda cc) fI A outer s H E) rest t ∧ t { nx := fun _ H' => Q .non H', rt := Q } (NdefX.startF N vs [some (.ref D)]) H) :
    FnOk P w K mg base CX (k + 1) fI (supFn name qual params (supSt p0 p1 p2 p3 p4 p5 m j :: rest) scope dV kV doc pm an cda ct cc) ps sp := by
  refine ⟨len, fun A outer s H args us vs Q E hr e0 hb r hsp => ?_⟩
  have hl := len _ _ _ _ hsp
  obtain ⟨a, C, hv0, TC, SC, hHa⟩ := obj _ _ _ _ hsp
  have KX : K.In s.heap := e0.mod.kin.keeps fun b o e => (e0.bs b o e).1
  have lim : s.heap.NoLimit := e0.mod.nolimit.keeps fun b o e => (e0.bs b o e).1
  obtain ⟨ccl, cdd, cvs, ccs, file, tf, hcode, hvs, hfile⟩ := T.code
  obtain ⟨cl, cld, csl, hcell⟩ := T.cell
  refine PySem.ks_codeAny_call_defAt (binds := ps.zip us) hr.depth (KX _ _ lk) rfl lim (PySem.W.codeRec_of KX T.cd) rfl hb (fun y hy => S.nocell y hy) (fun y hy => S.par y.1 (List.of_mem_zip (show (y.1, y.2) ∈ ps.zip us from hy)).1) (fun h₁ hns kp => ?_) S.co S.gen S.kind
  have hH : ∀ b o, K.lookup b = some o → H b = none := fun b o e => (e0.bs b o (e0.mod.kin b o e)).2
  have CA : NdefX.CellsAt [("__class__", cc)] ["__class__"] [some (V.ref D)] s.heap H := by
    refine ⟨rfl, fun y c e => ?_, fun x y c e1 e2 => ?_, fun i y e => ?_⟩
    · have hc : c = cc := by
        simp only [List.lookup_cons] at e
        split at e
        · cases e; rfl
        · cases e
      subst hc
      exact ⟨hH _ _ hcell, _, _, KX _ _ hcell, rfl⟩
    · have hx : ∀ {z : Str}, List.lookup z [(("__class__" : Str), cc)] = some c → z = "__class__" := fun {z} e => by
        simp only [List.lookup_cons] at e
        split at e
        · rename_i h; exact beq_iff_eq.mp h
        · cases e
      rw [hx e1, hx e2]
    · cases i with
      | zero =>
        cases e
        refine ⟨cc, rfl, fun v hv => ?_⟩
        cases hv
        exact ⟨_, rfl, _, KX _ _ hcell, rfl⟩
      | succ i => cases e
  have I : Inv (NdefX.ncx CX P w K mg base N (supNF name qual params (supSt p0 p1 p2 p3 p4 p5 m j :: rest) scope cda cc) fI A outer s H E) [] (NdefX.startF N vs [some (.ref D)]) H { s with heap := h₁, toks := s.toks + (ps.zip us).length } :=
    NdefX.inv_startN S hr.hd e0 hl r CA hns kp
  generalize hX : NdefX.ncx CX P w K mg base N (supNF name qual params (supSt p0 p1 p2 p3 p4 p5 m j :: rest) scope cda cc) fI A outer s H E = X at I
  have eK : X.K = K := by subst hX; rfl
  have eE : X.env = NdefX.envF (supNF name qual params (supSt p0 p1 p2 p3 p4 p5 m j :: rest) scope cda cc) fI s.heap.objs.size := by subst hX; rfl
  have em : X.mg = mg := by subst hX; rfl
  have eP : X.prog = P := by subst hX; rfl
  have ew : X.w = w := by subst hX; rfl
  have eA : X.A = A.deeper X.env := by subst hX; rfl
  obtain ⟨t, ht, htq⟩ := hrest A outer s H vs Q E (hr.deeper _) hsp
  rw [hX] at ht
  -- the end
  have fin : ∀ {s2 : Shared}, Inv X [] (NdefX.startF N vs [some (.ref D)]) H s2 → _root_.PySem.wpAt (model P w) (A.deeper X.env) (.func (supSt p0 p1 p2 p3 p4 p5 m j :: rest) X.env) (execs rest X.env)
      (fun f s' => CR CX outer P w H s Q E (.ok (.ret (match f with | .ret v => v | _ => .none))) s')
      (fun e s' => wpAny (model P w) (A.deeper X.env) (leaving X.env e) (fun _ s'' => CR CX outer P w H s Q E (.error e) s'') (fun e' s'' => CR CX outer P w H s Q E (.error e') s'') s') s2 := by
    intro s2 I2
    have q := ht.run [] s2 _ H _ I2 htq
    rw [eP, ew, eA] at q
    refine _root_.PySem.wpAt_of_wpAny (wpAny_mono q (fun fl s' hs => ?_) fun e s' hs => ?_)
    · have fin2 : ∀ {σ' : L2.St} {H' : Hp} {v : V} {u : Value}, Inv X [] σ' H' s' → RelV v u → Q v H' → CE outer P w H s Q u s' := by
        subst hX
        exact fun {σ' H' v u} J rv q => ⟨v, H', J.os, J.bare, J.base, J.hok, rv, q⟩
      cases fl with
      | ret u =>
        obtain ⟨v, σ', H', J, rv, q⟩ := hs
        exact fin2 J rv q
      | next =>
        obtain ⟨σ', H', J, q⟩ := hs
        exact fin2 (v := V.non) (u := Value.none) J rfl q
      | brk =>
        obtain ⟨_, _, _, q⟩ := hs
        exact False.elim q
      | cont =>
        obtain ⟨_, _, _, q⟩ := hs
        exact False.elim q
    · subst hX
      exact hs
  have ce : callEnv (supFn name qual params (supSt p0 p1 p2 p3 p4 p5 m j :: rest) scope dV kV doc pm an cda ct cc) s.heap.objs.size fI = X.env := by rw [eE]; rfl
  rw [ce]
  have kN : X.N[0]? = some ar.arg := by
    have e1 : N[0]? = some ar.arg := by
      have q : (N.take (ps.length + 1))[0]? = (ps ++ [("__class__" : Str)])[0]? := by rw [show N.take (ps.length + 1) = ps ++ [("__class__" : Str)] from S.pre]
      rw [List.getElem?_take_of_lt (by omega)] at q
      rw [q, List.getElem?_append_left (List.getElem?_eq_some_iff.mp hps).1]
      exact hps
    subst hX
    exact e1
  have kS : X.env.kindOf "super" = some .globalImplicit := by rw [eE]; exact hks
  have kC : X.env.kindOf "__class__" = some .free := by rw [eE]; exact S.frk _ List.mem_cons_self
  have kA : X.env.kindOf ar.arg = some .local := by rw [eE]; exact S.par _ (List.mem_of_getElem? hps)
  have cC : X.env.cells.lookup ("__class__" : Str) = some cc := by rw [eE]; rfl
  have kF : X.env.func = some fI := by rw [eE]
  have kD : X.env.code = .ref cda := by rw [eE]
  obtain ⟨oD, cdD, hoD, hdD⟩ : ∃ oD cdD, K.lookup D = some oD ∧ oD.data = .cls cdD := by
    have z := T.cls
    unfold PySem.W.isClsIn PySem.W.clsIn at z
    split at z
    · rename_i c d cd' sl ho
      exact ⟨_, _, ho, rfl⟩
    · cases z
  obtain ⟨nm, q, Nn, bs, bm, sn, sub, ab, col, dd, k0, k1, k2, k3, k5, hCl, hbm⟩ := TC.cls
  have first : _root_.PySem.wpAt (model P w) (A.deeper X.env) (.func (supSt p0 p1 p2 p3 p4 p5 m j :: rest) X.env) (exec (supSt p0 p1 p2 p3 p4 p5 m j) X.env)
      (fun f s2 => f = .next ∧ Inv X [] (NdefX.startF N vs [some (.ref D)]) H s2) (fun _ _ => False) { heap := h₁, gens := s.gens, drawn := s.drawn, toks := s.toks + (ps.zip us).length, os := s.os } := by
    refine _root_.PySem.ks_wpAt_Expr_any ?_ I.quiet (by rfl)
    refine _root_.PySem.ks_wpAt_MethodCall ?_ (he X.env)
    have KX1 : K.In h₁ := by
      have z := I.kIn
      rw [eK] at z
      exact z
    refine _root_.PySem.ks_wpAt_super_base (env := X.env) kS kC (by decide) kF (KX1 _ _ lk) rfl har kD (KX1 _ _ hcode) rfl hvs hfile T.top ?_
    -- super
    obtain ⟨mb, b1, b2⟩ := I.mod.blt
    have kind : X.env.scope.kind = .function := I.ok.kind
    refine PySem.W.ks_loadName_global kind kS (Calls.loadGlobal_builtin (mg := X.mg) (mb := mb) (by rw [I.ok.glob]; exact I.mod.glob.keeps I.bk) (by rw [em]; exact hms) (by rw [I.ok.blt]; exact b1.keeps I.bk) ((b2 _ (by decide)).trans (show bootBuiltins "super" = some (.type "super") by first | boot_by_name | rfl | kernel_rfl)) ⟨rfl, ?_⟩)
    refine wpAny_loadName_free kind kC cC ⟨_, KX1 _ _ hcell, rfl⟩ ?_ (by decide)
    obtain ⟨mL, hn, hl2⟩ := I.loc
    obtain ⟨u0, ru, look⟩ := hl2 0 ar.arg (.ref a) kN (by
      unfold NdefX.startF
      have hv : 0 < vs.length := (List.getElem?_eq_some_iff.mp hv0).1
      rw [List.getElem?_append_left (by rw [List.length_map]; exact hv), List.getElem?_map, hv0]
      rfl) (.inl kA)
    obtain rfl : u0 = Value.ref a := ru
    have hma : mL ar.arg = some (.ref a) := by
      rcases look with ⟨_, h⟩ | ⟨h | h, _⟩
      · exact h
      · rw [kA] at h; cases h
      · rw [kA] at h; cases h
    refine wpAny_loadName_local kind kA hn hma ?_
    obtain ⟨t1, hoa⟩ := exo_at I.hok hHa
    have hoa : h₁.get? a = some ({ cls := .ref C, dict := none, data := .fields #[.ref t1, .none, .none, .none, .bool false, .none] } : Obj) := hoa
    refine _root_.PySem.ks_wpAny_isType_cls (KX1 _ _ hoD) hdD ⟨rfl, ?_⟩
    refine _root_.PySem.ks_wpAny_call_super (KX1 _ _ hoD) hdD hoa rfl (fun c z => by cases z) (PySem.W.looks_mroIn KX1 SC.mr) (fun h2 hso k2' => ?_)
    -- .__init__
    have KX2 : K.In h2 := KX1.keeps k2'
    have hoa2 := k2' _ _ hoa
    have J : PySem.W.InstAt h2 a ({ cls := .ref C, dict := none, data := .fields #[.ref t1, .none, .none, .none, .bool false, .none] } : Obj) C none := ⟨hoa2, rfl, rfl, trivial⟩
    have hcl : PySem.W.clsIn K C = some { name := nm, bases := bs, mro := .ref C :: bm, ns := Nn, qualname := q, hasDict := true, slotNames := sn, subclasses := sub, abstract := ab, collection := col, hasDel := false } := by unfold PySem.W.clsIn; rw [hCl] <;> rfl
    have hsup := SC.sup
    unfold PySem.W.ks_superIn at hsup
    rw [hcl] at hsup
    refine PySem.W.kxs_getMethod PySem.W.kxs_ValueError hso (PySem.W.looks_opaque KX2 T.noTP) (fun A Q E s k q => wpAny_bind ((PySem.W.looks_clsIn KX2 hcl) A _ E s k (wpAny_pure q))) rfl KX2 hsup (J.type.andThen (PySem.W.looks_subIn KX2 SC.ve)) (PySem.W.ks_ne KX2 J hcl) (by decide) ?_
    -- the call
    have k3 : ∀ b o, h₁.get? b = some o → (h2.push (PySem.W.kxs_mw "ValueError.__init__" a)).get? b = some o := fun b o e => Heap.get?_push_of_some _ (k2' _ _ e)
    have hu : (h2.push (PySem.W.kxs_mw "ValueError.__init__" a)).get? h2.objs.size = some (PySem.W.kxs_mw "ValueError.__init__" a) := Heap.get?_push_at rfl rfl
    have I3 : Inv X [] (NdefX.startF N vs [some (.ref D)]) H { heap := h2.push (PySem.W.kxs_mw "ValueError.__init__" a), gens := s.gens, drawn := s.drawn, toks := s.toks + (ps.zip us).length + 1, os := s.os } := I.kept (t' := s.toks + (ps.zip us).length + 1) k3
    have hsz : h₁.objs.size ≤ h2.objs.size := Nat.le_of_lt (Heap.lt_size hso)
    obtain ⟨f0, f1, f2, _⟩ := I.fpOk (H' := H) hsz (I.hok.fresh hsz)
    have I4 : Inv X [(h2.objs.size, PySem.W.kxs_mw "ValueError.__init__" a)] (NdefX.startF N vs [some (.ref D)]) H { heap := h2.push (PySem.W.kxs_mw "ValueError.__init__" a), gens := s.gens, drawn := s.drawn, toks := s.toks + (ps.zip us).length + 1, os := s.os } := I3.pins_of fun p hp => by
      have e : p = (h2.objs.size, PySem.W.kxs_mw "ValueError.__init__" a) := by simpa using hp
      subst e
      exact ⟨hu, f0, f1, f2, fun v z => by cases z⟩
    have ha : PA X.nox [.Constant (.str m) j p3] (tCons (tC (.str m)) tNil) := pa_cons pe_str pa_nil (by rfl)
    have hq := ha.run p4 [(h2.objs.size, PySem.W.kxs_mw "ValueError.__init__" a)] _ _ H (fun vs H1 => vs = [V.str m] ∧ H1 = H) (I4.wish _) ⟨rfl, rfl⟩
    have eN : X.nox.env = X.env := rfl
    rw [eN] at hq
    have hq : wpAny (model X.prog X.w) X.A (spliced (backTo p4 (starEach [.Constant (.str m) j p3] X.env))) _ (fun _ _ => False) _ := hq
    rw [eP, ew, eA] at hq
    have se : starEach [.Constant (.str m) j p3] X.env = (false, eval (.Constant (.str m) j p3) X.env) :: starEach [] X.env := by rfl
    rw [se] at hq ⊢
    show wpAny (model P w) (A.deeper X.env) (callWith p4 (.ref h2.objs.size) [] (backTo p4 ((false, eval (.Constant (.str m) j p3) X.env) :: starEach [] X.env)) []) _ _ _
    refine PySem.W.kxs_callWith (i := "ValueError.__init__") (x := a) (by rfl) (Calls.evalArgs_plain (wpAny_mono hq (fun us2 s4 h4 => ?_) fun _ _ z => z))
    obtain ⟨vs4, H4, I5, r4, e4, eH4⟩ := h4
    subst e4
    subst eH4
    have I5 : Inv X [(h2.objs.size, PySem.W.kxs_mw "ValueError.__init__" a)] (NdefX.startF N vs [some (.ref D)]) H4 s4 := I5.unwish
    obtain ⟨g0, _⟩ := I5.pin _ (List.mem_append_right _ List.mem_cons_self)
    refine ⟨g0, ?_⟩
    have hlen : us2.length = 1 := by rw [← Paired.length r4]; rfl
    obtain ⟨t5, hob5⟩ := exo_at I5.hok hHa
    have KX5 : K.In s4.heap := by
      have z := I5.kIn
      rw [eK] at z
      exact z
    obtain ⟨hp5, gg5, d5, tk5, os5⟩ := s4
    show wpAny (model P w) (A.deeper X.env) (call (.ref h2.objs.size) us2) _ _ _
    refine wpAny_call (codeAny_of_tree ?_)
    show wpAny _ (A.deeper X.env).in1 (callAny (.ref h2.objs.size) ⟨us2, []⟩) _ _ _
    simp only [callAny]
    refine wpAny_bind (wpAny_load g0 ?_)
    simp only [PySem.W.kxs_mw, show (Value.type "method-wrapper" == Value.type "method" || Value.type "method-wrapper" == Value.type "builtin_function_or_method" || Value.type "method-wrapper" == Value.type "method-wrapper") = true by decide, if_true]
    refine PySem.W.KFB.if_so (by decide) ?_
    refine wpAny_bind (PySem.W.check_bound_init F.excBase_ValueError.toExcCallFacts (KX5 _ _ hCl) hob5 rfl ?_)
    refine wpAny_bind (wpAny_pure (wpAny_pure ?_))
    refine ⟨plainId_quiet F.excBase_ValueError.init.plain _, codeAny_builtin F.excBase_ValueError.initEntry ?_⟩
    refine PySem.W.exc_init_tree (cls := .ref C) (t0 := t5) (dv := none) (c2 := .none) (c3 := .none) (b4 := .bool false) hob5 (by rw [hlen]; decide) (fun h' k' hx' _ => ?_)
    have J5 := I5.write (t' := tk5) (x := a) (e := a) (o := exo a C none) (by rw [hHa]; exact True.intro) (.inl rfl) k' ⟨_, hx'⟩ (exo_ok hx')
    have eu : upd H4 a (exo a C none) = H4 := by
      funext b
      by_cases hb : b = a
      · rw [hb, upd_same, hHa]
      · rw [upd_ne hb]
    rw [eu] at J5
    have J6 := J5.pins_of (pins' := []) fun p hp => by cases hp
    first
      | exact ⟨rfl, J6⟩
      | exact ⟨True.intro, J6⟩
      | exact J6
  refine _root_.PySem.ks_wpAt_execs_cons (_root_.PySem.ks_wpAt_mono first (fun f s2 hq => ?_) fun _ _ z => z.elim)
  obtain ⟨rfl, I2⟩ := hq
  exact fin I2
end
end PL
/-! The plain layer: try with several clauses, each with or without a name. -/
namespace PL
open PySem L2
open PyProof.Rows hiding St
/-! ### an error that was caught: the state at the clauses -/
structure Caught (X : Cx) (pins : List (Addr × Obj)) (σ : St) (H : Hp) (a : Addr) (B : Heap) (cls : Value) (d : Option Addr) (sI s' : Shared) (h3 : Heap) : Prop where
  ok : X.Ok
  inv : Inv X pins σ H sI
  nb : ∀ b o, sI.heap.get? b = some o → b ∉ frs X.stack → B.get? b = some o
  up : sI.heap.UpToSlots h3
  fl : HandSPX.FlyingZ B (X.env :: X.outer) a (Zc cls d) h3
  na : H a = none
  os : s'.os = sI.os
  ag : AllBare s'.gens
  nL : a ≠ X.env.locals
  nF : a ∉ X.fs
/-- what the clauses wish of an error -/
structure HdR (X : Cx) (hds : List ExceptHandler) (w : Ends → WX) : Prop where
  run : ∀ (D : Ends) (pins : List (Addr × Obj)) (σ : St) (H : Hp) (a : Addr) (B : Heap) (cls : Value) (d : Option Addr) (sI s' : Shared) (h3 : Heap), Caught X pins σ H a B cls d sI s' h3 → w D cls d σ H →
    wpAny (model X.prog X.w) X.A (handleBy (.ref a) X.env hds) (SP X pins D) X.xe { s' with heap := h3 }
section
variable {X : Cx} {W : WX} {hds : List ExceptHandler} {w : Ends → WX}
theorem hdr_nil (hs : X.stack = X.env :: X.outer) (hf : X.env.frame = some X.env.locals) (tk : Takes X W) : HdR X [] (fun _ => W) := by
  refine ⟨fun D pins σ H a B cls d sI s' h3 C q => wpAny_handleBy_nil ?_⟩
  obtain ⟨k1, k2, k3, oe, vs, T, oT, ts', he, hz, hd, h1, hr⟩ := id C.fl
  unfold PySem.passOn
  refine wpAny_bind (wpAny_field he hd h1 ?_)
  have hT : ¬ ((Value.ref T == Value.none) = true) := by simp
  rw [if_neg hT]
  have last : wpAny (model X.prog X.w) X.A (setFlight (.ref a) X.env.frame) (fun _ s4 => wpAny (model X.prog X.w) X.A (throw (.ref a) : Sem Flow) (SP X pins D) X.xe s4) X.xe { s' with heap := h3 } := by
    rw [hf]
    refine HandSPX.setFlight_upZ C.fl fun h4 hh4 up4 => wpAny_throw (tk _ _ ⟨a, B, sI, pins, σ, H, cls, d, rfl, C.inv, C.nb, C.up.trans up4, .inr (.inr ?_), C.na, C.os, C.ag, q⟩)
    rw [hs]
    exact hh4
  first
    | exact wpAny_bind last
    | exact wpAny_bind (wpAny_pure (wpAny_bind last))
/-- the test of a clause -/
theorem Caught.state {pins : List (Addr × Obj)} {σ : St} {H : Hp} {a : Addr} {B : Heap} {cls : Value} {d : Option Addr} {sI s' : Shared} {h3 : Heap} (C : Caught X pins σ H a B cls d sI s' h3) : Inv X pins σ H { s' with heap := h3 } :=
  C.inv.landed C.nb C.fl.1 C.up C.os C.ag
/-- a clause whose type is evaluated to c, which answers b for the class -/
def ClsT (X : Cx) (t : Expr) (c : Value) : Prop := ∀ (a : Addr) (oe : Obj) (pn : List (Addr × Obj)) (σ : St) (H : Hp) (s : Shared) (Q : Value → Shared → Prop) (E : Value → Shared → Prop), Inv (X.suite a ((a, oe) :: pn)) [] σ H s → Q c s →
  wpAny (model X.prog X.w) (X.A.mark (some (.ref a))) (eval t X.env) Q E s
theorem clsT_name {x : Str} {c : Value} {np : Pos} (hc : Names X x c) : ClsT X (.Name x np) c := by
  intro a oe pn σ H s Q E I q
  obtain ⟨hg, hdb, hm | ⟨hm, hv, hnn⟩⟩ := hc
  · exact ld_glob (X := X.suite a ((a, oe) :: pn)) I hg hm q hdb
  · exact ld_blt (X := X.suite a ((a, oe) :: pn)) I hg hm hv q hnn hdb
def wAs2 (X : Cx) (c : Value) (i : Nat) (ts : Addr → Obj → List (Addr × Obj) → Value → Option Addr → TS) (w : Ends → WX) : Ends → WX := fun D cls d σ H =>
  ∃ b, PySem.W.exmOne X.K cls c = some b ∧ (b = true → ∀ a oe pn, H a = none → Zc cls d oe → (∃ vs, oe.data = .fields vs) → ts a oe pn cls d { nx := fun σ' H' => D.nx (σ'.set i none) H', rt := D.rt, bk := fun σ' H' => D.bk (σ'.set i none) H', ct := fun σ' H' => D.ct (σ'.set i none) H' } (σ.set i (some (.ref a))) H) ∧
    (b = false → w D cls d σ H)
theorem hdr_as {t : Expr} {c : Value} {n : Str} {i : Nat} {b₀ : Stmt} {suite : List Stmt} {pos : Pos} {ts : Addr → Obj → List (Addr × Obj) → Value → Option Addr → TS} (hN : X.N.Nodup) (hi : X.N[i]? = some n) (hln : X.env.kindOf n = some .local) (hc : ClsT X t c)
    (hsu : ∀ (a : Addr) (oe : Obj) (pn : List (Addr × Obj)) (cls : Value) (d : Option Addr), Zc cls d oe → (∃ vs, oe.data = .fields vs) → PSs (X.suite a ((a, oe) :: pn)) (b₀ :: suite) (ts a oe pn cls d)) (hr : HdR X hds w) :
    HdR X (.ExceptHandler (some t) (some n) (b₀ :: suite) pos :: hds) (wAs2 X c i ts w) := by
  refine ⟨fun D pins σ H a B cls d sI s' h3 C q => ?_⟩
  obtain ⟨b, hb1, hyes, hno⟩ := q
  have hloc : Loc X.env.scope n := .inl hln
  obtain ⟨oe3, vs3, he3, hz3, hd3⟩ := C.fl.there
  have J3 := C.state
  have S3 := J3.suite he3 hd3 C.na C.nL C.nF
  refine wpAny_handleBy_cons (codeAny_handlers_test ?_) (by intro q; cases q)
  have LT : PySem.W.Looks (model X.prog X.w) h3 (typeOf (.ref a)) cls := fun A Q E s k q => wpAny_typeOf_ref (k _ _ he3) (by rw [hz3.1]; exact q)
  have LM := PySem.W.exm_one (M := model X.prog X.w) J3.kIn LT hb1
  refine hc a oe3 (X.pn ++ pins) σ H _ _ _ S3 (LM.here ?_)
  cases b with
  | true =>
    refine codeAny_handlers_suite_as ?_
    refine HandSPX.lands_againZ C.fl fun h4 fl4 up4 => ?_
    have J4 : Inv X pins σ H { s' with heap := h4 } := C.inv.landed C.nb fl4.1 (C.up.trans up4) C.os C.ag
    obtain ⟨oe4, vs4, he4, hz4, hd4⟩ := fl4.there
    have S4 := J4.suite he4 hd4 C.na C.nL C.nF
    refine store_ok (X := X.suite a ((a, oe4) :: (X.pn ++ pins))) (v := .ref a) S4 hN hi hloc rfl (fun s5 S5 => ?_) (.inr hln)
    have run := (hsu a oe4 (X.pn ++ pins) cls d hz4 ⟨_, hd4⟩).run [] s5 _ H _ S5 (hyes rfl a oe4 (X.pn ++ pins) C.na hz4 ⟨_, hd4⟩)
    refine wpAny_mono run (fun f s6 hsp => ?_) (fun _ _ z => False.elim z)
    have back : ∀ {σ6 : St} {H6 : Hp} {Q : Shared → Prop}, Inv (X.suite a ((a, oe4) :: (X.pn ++ pins))) [] σ6 H6 s6 → (∀ s7, Inv X pins (σ6.set i none) H6 s7 → Q s7) →
        wpAny (model X.prog X.w) X.A (do bindName X.env n .none; unbindBehindTheSuite X.env n pos) (fun _ s7 => Q s7) X.xe s6 := fun {σ6 H6 Q} S6 hq => gone_ok (S6.unsuite C.ok) hN hi hln hq
    cases f with
    | ret u =>
      obtain ⟨v6, σ6, H6, S6, r6, q6⟩ := hsp
      exact back S6 fun s7 J7 => ⟨_, _, _, J7, r6, q6⟩
    | next =>
      obtain ⟨σ6, H6, S6, q6⟩ := hsp
      exact back S6 fun s7 J7 => ⟨_, _, J7, q6⟩
    | brk =>
      obtain ⟨σ6, H6, S6, q6⟩ := hsp
      exact back S6 fun s7 J7 => ⟨_, _, J7, q6⟩
    | cont =>
      obtain ⟨σ6, H6, S6, q6⟩ := hsp
      exact back S6 fun s7 J7 => ⟨_, _, J7, q6⟩
  | false => exact hr.run D pins σ H a B cls d sI s' h3 C (hno rfl)
def wOn2 (X : Cx) (c : Value) (ts : Addr → Obj → List (Addr × Obj) → Value → Option Addr → TS) (w : Ends → WX) : Ends → WX := fun D cls d σ H =>
  ∃ b, PySem.W.exmOne X.K cls c = some b ∧ (b = true → ∀ a oe pn, H a = none → Zc cls d oe → (∃ vs, oe.data = .fields vs) → ts a oe pn cls d D σ H) ∧ (b = false → w D cls d σ H)
theorem hdr_only {t : Expr} {c : Value} {b₀ : Stmt} {suite : List Stmt} {pos : Pos} {ts : Addr → Obj → List (Addr × Obj) → Value → Option Addr → TS} (hc : ClsT X t c)
    (hsu : ∀ (a : Addr) (oe : Obj) (pn : List (Addr × Obj)) (cls : Value) (d : Option Addr), Zc cls d oe → (∃ vs, oe.data = .fields vs) → PSs (X.suite a ((a, oe) :: pn)) (b₀ :: suite) (ts a oe pn cls d)) (hr : HdR X hds w) :
    HdR X (.ExceptHandler (some t) none (b₀ :: suite) pos :: hds) (wOn2 X c ts w) := by
  refine ⟨fun D pins σ H a B cls d sI s' h3 C q => ?_⟩
  obtain ⟨b, hb1, hyes, hno⟩ := q
  obtain ⟨oe3, vs3, he3, hz3, hd3⟩ := C.fl.there
  have J3 := C.state
  have S3 := J3.suite he3 hd3 C.na C.nL C.nF
  refine wpAny_handleBy_cons (codeAny_handlers_test ?_) (by intro q; cases q)
  have LT : PySem.W.Looks (model X.prog X.w) h3 (typeOf (.ref a)) cls := fun A Q E s k q => wpAny_typeOf_ref (k _ _ he3) (by rw [hz3.1]; exact q)
  have LM := PySem.W.exm_one (M := model X.prog X.w) J3.kIn LT hb1
  refine hc a oe3 (X.pn ++ pins) σ H _ _ _ S3 (LM.here ?_)
  cases b with
  | true =>
    refine codeAny_handlers_suite ?_
    refine HandSPX.lands_againZ C.fl fun h4 fl4 up4 => ?_
    have J4 : Inv X pins σ H { s' with heap := h4 } := C.inv.landed C.nb fl4.1 (C.up.trans up4) C.os C.ag
    obtain ⟨oe4, vs4, he4, hz4, hd4⟩ := fl4.there
    have S4 := J4.suite he4 hd4 C.na C.nL C.nF
    have run := (hsu a oe4 (X.pn ++ pins) cls d hz4 ⟨_, hd4⟩).run [] _ _ H _ S4 (hyes rfl a oe4 (X.pn ++ pins) C.na hz4 ⟨_, hd4⟩)
    refine wpAny_mono run (fun f s6 hsp => ?_) (fun _ _ z => False.elim z)
    cases f with
    | ret u =>
      obtain ⟨v6, σ6, H6, S6, r6, q6⟩ := hsp
      exact ⟨_, _, _, S6.unsuite C.ok, r6, q6⟩
    | next =>
      obtain ⟨σ6, H6, S6, q6⟩ := hsp
      exact ⟨_, _, S6.unsuite C.ok, q6⟩
    | brk =>
      obtain ⟨σ6, H6, S6, q6⟩ := hsp
      exact ⟨_, _, S6.unsuite C.ok, q6⟩
    | cont =>
      obtain ⟨σ6, H6, S6, q6⟩ := hsp
      exact ⟨_, _, S6.unsuite C.ok, q6⟩
  | false => exact hr.run D pins σ H a B cls d sI s' h3 C (hno rfl)
/-- the whole statement -/
theorem ps_try_gen {body : List Stmt} {h₀ : ExceptHandler} {pos : Pos} {tb : WX → TS} (hs : X.stack = X.env :: X.outer) (hf : X.env.frame = some X.env.locals)
    (hb : ∀ (W : WX) (pn : List (Addr × Obj)) (xe : Value → Shared → Prop), Takes (X.tr pn xe) W → PassesOwn (model X.prog X.w) X.A X.env xe → PSs (X.tr pn xe) body (tb W))
    (hh : HdR X (h₀ :: hds) w) : PS X (.Try body (h₀ :: hds) [] [] pos) (fun D σ H => tb (w D) D σ H) := by
  refine ⟨fun pins s σ H D I h => ?_⟩
  have ok := I.ok
  have hfr : X.A.frames = some (X.env :: X.outer) := by rw [ok.frames, hs]
  refine wpAny_Try_except ?_
  have body := hb (w D) (X.pn ++ pins) (fun e s₁ => wpAny (model X.prog X.w) X.A (noteFrame e X.env) (fun _ s₂ => wpAny (model X.prog X.w) X.A (setFlight e none) (fun _ s₃ =>
    wpAny (model X.prog X.w) X.A (handleBy e X.env (h₀ :: hds)) (SP X pins D) X.xe s₃) X.xe s₂) X.xe s₁) (fun u s' xx => by
      obtain ⟨a, B, sI, pins', σ', H', cls, d, rfl, J', nb, up, sky, na, os, ag, q⟩ := xx
      have J : Inv X pins σ' H' sI := J'.ofTry ok
      have sky' : Sky B (X.env :: X.outer) a (Zc cls d) X.env.locals s'.heap := by rw [← hs]; exact sky
      show wpAny (model X.prog X.w) X.A (noteFrame (.ref a) X.env) _ _ _
      refine Sky.land Zc.steady hfr hf sky' fun h3 fl3 up3 => ?_
      obtain ⟨oe3, vs3, he3, hz3, hd3⟩ := fl3.there
      have nfr : a ∉ frs (X.env :: X.outer) := fun hm => by
        obtain ⟨_, o', e', hnf⟩ := fl3.2.2.1.mem hm
        rw [he3] at e'
        cases e'
        exact hnf _ hd3
      exact hh.run D pins σ' H' a B cls d sI s' h3 ⟨ok, J, nb, up.trans up3, fl3, na, os, ag, fun z => nfr (List.mem_filterMap.mpr ⟨X.env, List.mem_cons_self, by rw [hf, z]⟩), fun hm => by
        obtain ⟨e, he, q⟩ := List.mem_filterMap.mp hm
        exact nfr (List.mem_filterMap.mpr ⟨e, List.mem_cons_of_mem _ he, q⟩)⟩ q) PassesOwn.looking
  refine wpAny_mono (body.run [] s σ H D (I.toTry _) h) (fun f s1 hsp => ?_) (fun e s1 he => he)
  cases f with
  | next =>
    obtain ⟨σ', H', J', q⟩ := hsp
    exact wpAny_execs_nil ⟨σ', H', J'.ofTry ok, q⟩
  | brk =>
    obtain ⟨σ', H', J', q⟩ := hsp
    exact ⟨σ', H', J'.ofTry ok, q⟩
  | cont =>
    obtain ⟨σ', H', J', q⟩ := hsp
    exact ⟨σ', H', J'.ofTry ok, q⟩
  | ret u =>
    obtain ⟨v, σ', H', J', r, q⟩ := hsp
    exact ⟨v, σ', H', J'.ofTry ok, r, q⟩
end
end PL
set_option maxHeartbeats 1000000
/-! The plain layer: try, suites, e.f, isinstance(e, T); own errors with one or two fields. -/
namespace PL
open PySem L2
open PyProof.Rows hiding St
/-! ### own errors with fields -/
section
variable {P : Program} {w : World} {K : PySem.W.Frag} {mg : Str → Option Value} {base : Heap} {CX : CXT} {fI cc cda D : Addr} {name qual : Str} {params : Arguments} {scope : Scope} {dV kV doc pm ct oc : Value} {an od : Option Addr} {osl : Array (Option Value)}
  {x y f g : Str} {k : Nat} {p0 p1 p2 p3 p4 p5 q1 q2 q3 q4 r1 r2 r3 r4 : Pos} {m : Str} {j : Nat} {ar : Arg}
theorem init1 (T : SupF P K fI cc cda D qual) (lk : K.lookup fI = some ⟨oc, od, .func (supFn name qual params (supSt p0 p1 p2 p3 p4 p5 m j :: [.Assign [.Attribute (.Name "self" q1) f q2] (.Name x q3) q4]) scope dV kV doc pm an cda ct cc), osl⟩)
    (S : NdefX.NScope ["self", x, "__class__"] ["self", x] ["__class__"] scope) (har : (params.posonlyargs ++ params.args).head? = some ar) (hps : ar.arg = "self")
    {pl : Env → Sem Bool} (he : ∀ env : Env, eval (.Call (.Attribute (.Call (.Name "super" p0) [] [] p1) "__init__" p2) [.Constant (.str m) j p3] [] p4) env = (do
      let ov ← attributeBase (.Call (.Name "super" p0) [] [] p1) "__init__" env (eval (.Call (.Name "super" p0) [] [] p1) env)
      standAt p2.atName
      let (f, first) ← holding [ov] (getMethod ov "__init__" (pl env))
      callWith p4 f first (backTo p4 (starEach [.Constant (.str m) j p3] env)) [])) (hms : mg "super" = none) (hks : scope.names.lookup ("super" : Str) = some .globalImplicit) (hd : (x == ("__debug__" : Str)) = false) (hcd : (x == ("__classdict__" : Str)) = false) :
    FnOk P w K mg base CX (k + 1) fI (supFn name qual params (supSt p0 p1 p2 p3 p4 p5 m j :: [.Assign [.Attribute (.Name "self" q1) f q2] (.Name x q3) q4]) scope dV kV doc pm an cda ct cc) ["self", x] (spInit K (SupC K D) [f]) := by
  refine init_of T lk S har (by rw [hps]; rfl) he hms hks _ (fun vs H Q E h => ?_) (fun vs H Q E h => ?_) (fun A outer s H vs Q E hr h => ?_)
  · obtain ⟨a, C, ws, rfl, hl, _⟩ := h
    show ws.length + 1 = 2
    rw [hl]
    rfl
  · obtain ⟨a, C, ws, rfl, hl, TC, SC, nf, hHa, q⟩ := h
    exact ⟨a, C, rfl, TC, SC, hHa⟩
  · obtain ⟨a, C, ws, rfl, hl, TC, SC, nf, hHa, q⟩ := h
    obtain ⟨v, rfl⟩ : ∃ v, ws = [v] := by
      match ws, hl with
      | [v], _ => exact ⟨v, rfl⟩
    refine ⟨_, pss_one (ps_ost (pe_var (i := 0) rfl (.inl (S.par _ List.mem_cons_self))) (pe_var (i := 1) rfl (.inl (S.par _ (List.mem_cons_of_mem _ List.mem_cons_self))) hd hcd) (by rfl)), ?_⟩
    exact ⟨v, rfl, .ref a, rfl, a, C, rfl, TC, nf _ List.mem_cons_self, .inl ⟨hHa, fun dx n ne => q dx n⟩⟩
theorem init2 (T : SupF P K fI cc cda D qual) (lk : K.lookup fI = some ⟨oc, od, .func (supFn name qual params (supSt p0 p1 p2 p3 p4 p5 m j :: [.Assign [.Attribute (.Name "self" q1) f q2] (.Name x q3) q4, .Assign [.Attribute (.Name "self" r1) g r2] (.Name y r3) r4]) scope dV kV doc pm an cda ct cc), osl⟩)
    (S : NdefX.NScope ["self", x, y, "__class__"] ["self", x, y] ["__class__"] scope) (har : (params.posonlyargs ++ params.args).head? = some ar) (hps : ar.arg = "self")
    {pl : Env → Sem Bool} (he : ∀ env : Env, eval (.Call (.Attribute (.Call (.Name "super" p0) [] [] p1) "__init__" p2) [.Constant (.str m) j p3] [] p4) env = (do
      let ov ← attributeBase (.Call (.Name "super" p0) [] [] p1) "__init__" env (eval (.Call (.Name "super" p0) [] [] p1) env)
      standAt p2.atName
      let (f, first) ← holding [ov] (getMethod ov "__init__" (pl env))
      callWith p4 f first (backTo p4 (starEach [.Constant (.str m) j p3] env)) [])) (hms : mg "super" = none) (hks : scope.names.lookup ("super" : Str) = some .globalImplicit) (hd : (x == ("__debug__" : Str)) = false) (hcd : (x == ("__classdict__" : Str)) = false) (hd2 : (y == ("__debug__" : Str)) = false) (hcd2 : (y == ("__classdict__" : Str)) = false) :
    FnOk P w K mg base CX (k + 1) fI (supFn name qual params (supSt p0 p1 p2 p3 p4 p5 m j :: [.Assign [.Attribute (.Name "self" q1) f q2] (.Name x q3) q4, .Assign [.Attribute (.Name "self" r1) g r2] (.Name y r3) r4]) scope dV kV doc pm an cda ct cc) ["self", x, y] (spInit K (SupC K D) [f, g]) := by
  refine init_of T lk S har (by rw [hps]; rfl) he hms hks _ (fun vs H Q E h => ?_) (fun vs H Q E h => ?_) (fun A outer s H vs Q E hr h => ?_)
  · obtain ⟨a, C, ws, rfl, hl, _⟩ := h
    show ws.length + 1 = 3
    rw [hl]
    rfl
  · obtain ⟨a, C, ws, rfl, hl, TC, SC, nf, hHa, q⟩ := h
    exact ⟨a, C, rfl, TC, SC, hHa⟩
  · obtain ⟨a, C, ws, rfl, hl, TC, SC, nf, hHa, q⟩ := h
    obtain ⟨v, u, rfl⟩ : ∃ v u, ws = [v, u] := by
      match ws, hl with
      | [v, u], _ => exact ⟨v, u, rfl⟩
    refine ⟨_, pss_cons (ps_ost (pe_var (i := 0) rfl (.inl (S.par _ List.mem_cons_self))) (pe_var (i := 1) rfl (.inl (S.par _ (List.mem_cons_of_mem _ List.mem_cons_self))) hd hcd) (by rfl))
      (pss_one (ps_ost (pe_var (i := 0) rfl (.inl (S.par _ List.mem_cons_self))) (pe_var (i := 2) rfl (.inl (S.par _ (List.mem_cons_of_mem _ (List.mem_cons_of_mem _ List.mem_cons_self)))) hd2 hcd2) (by rfl))), ?_⟩
    refine ⟨v, rfl, .ref a, rfl, a, C, rfl, TC, nf _ List.mem_cons_self, .inl ⟨hHa, fun dx n ne => ?_⟩⟩
    refine ⟨u, rfl, .ref a, rfl, a, C, rfl, TC, nf _ (List.mem_cons_of_mem _ List.mem_cons_self), .inr ⟨dx, _, upd_same, by rw [upd_ne ne, upd_same], by simp, ?_⟩⟩
    have e : upd (upd (upd H dx (exd dx [(f, v)])) a (exo a C (some dx))) dx (exd dx ((g, u) :: [(f, v)])) = upd (upd H dx (exd dx ([f, g].zip [v, u]).reverse)) a (exo a C (some dx)) := by
      funext b
      by_cases hb : b = dx
      · rw [hb, upd_same, upd_ne ne, upd_same]
        rfl
      · rw [upd_ne hb]
        by_cases hba : b = a
        · rw [hba, upd_same, upd_same]
        · rw [upd_ne hba, upd_ne hba, upd_ne hb, upd_ne hb]
    rw [e]
    exact q dx n
end
/-- an own error class that may be raised: its name, its fields -/
structure ErrT (P : Program) (w : World) (K : PySem.W.Frag) (mg : Str → Option Value) (base : Heap) (x : Str) (names : List Str) : Prop where
  ex : ∃ (C fI D : Addr) (fd : FuncData) (ps : List Str), mg x = some (.ref C) ∧ OexC K C ∧ SupC K D C ∧ PySem.W.findIn K (.ref C) "__init__" = some (some (.ref fI)) ∧ PySem.W.typeIn K (.ref fI) = some (.type "function") ∧
    FnOk P w K mg base CX0 1 fI fd ps (spInit K (SupC K D) names) ∧ Binds K fd ps [] ∧ ∀ n ∈ names, PySem.W.findIn K (.ref C) n = some none
theorem psx_err {X : Cx} {W : WX} {names : List Str} {x : Str} {p pos pos' : Pos} {e : Expr} {es : List Expr} {fs : Ev → Rs (List Dt)} (T : ErrT X.prog X.w X.K X.mg X.base x names) (hr : Room 2 X.A) (tk : Takes X W) (hc : X.calm = true) (ha : PAX X W (e :: es) fs)
    (hg : Gl X x := by rfl) (hdb : (x == ("__debug__" : Str)) = false := by decide) (he : starEach (e :: es) X.env = (false, eval e X.env) :: starEach es X.env := by rfl) (hpl : (backTo pos (starEach es X.env)).any (·.1) = false := by rfl) :
    PSX X W (.Raise (some (.Call (.Name x p) (e :: es) [] pos)) none pos') (sRaise x names fs) := by
  obtain ⟨C, fI, D, fd, ps, hm, TC, SC, iC, tI, F, hb, nf⟩ := T.ex
  exact psx_raise TC iC tI F SC nf hr hb pass0 hm tk hc ha hg hdb he hpl
/-! ### try -/
def chk (r : So) : So := match r with
  | .nx E => if noExc E = true then .nx E else .bad
  | .bk E => if noExc E = true then .bk E else .bad
  | .ct E => if noExc E = true then .ct E else .bad
  | .er x E => if noExc E = true then .er x E else .bad
  | .rt d => .rt d
  | .bad => .bad
def sTry (g : Ev → So) (hd : Ex → Ev → So) (E : Ev) : So := if noExc E = true then match chk (g E) with
    | .er x E1 => hd x E1
    | r => r
  else .bad
def hNil (x : Ex) (E : Ev) : So := .er x E
/-- the slot of the error is emptied -/
def unx (i : Nat) (r : So) : So := match r with
  | .nx E => if noExc (E.set i .un) = true then .nx (E.set i .un) else .bad
  | .bk E => if noExc (E.set i .un) = true then .bk (E.set i .un) else .bad
  | .ct E => if noExc (E.set i .un) = true then .ct (E.set i .un) else .bad
  | .rt d => .rt d
  | _ => .bad
def hAs (tbl : List (Str × Bool)) (i : Nat) (s : Ev → So) (rest : Ex → Ev → So) (x : Ex) (E : Ev) : So := match tbl.lookup x.cls with
  | some true => if noExc E = true then unx i (s (E.set i (.exc x))) else .bad
  | some false => rest x E
  | none => .bad
def noEr (r : So) : So := match r with
  | .er _ _ => .bad
  | r => chk r
def hOnly (tbl : List (Str × Bool)) (s : Ev → So) (rest : Ex → Ev → So) (x : Ex) (E : Ev) : So := match tbl.lookup x.cls with
  | some true => if noExc E = true then noEr (s E) else .bad
  | some false => rest x E
  | none => .bad
def WH (X : Cx) (W : WX) (hd : Ex → Ev → So) (D : Ends) : WX := fun cls d σ H => ∃ B G E x, EnvOk X.fx B G H E σ ∧ ExIs X.mg X.K G x cls d ∧ Fin X W B G D (hd x E)
structure HX (X : Cx) (W : WX) (hds : List ExceptHandler) (hd : Ex → Ev → So) : Prop where
  hd : HdR X hds (WH X W hd)
/-- how the classes answer to a clause -/
def Tbl (X : Cx) (c : Value) (tbl : List (Str × Bool)) : Prop := ∀ n b, tbl.lookup n = some b → ∀ C, X.mg n = some (.ref C) → PySem.W.exmOne X.K (.ref C) c = some b
theorem HdR.imp {X : Cx} {hds : List ExceptHandler} {w w' : Ends → WX} (h : HdR X hds w) (q : ∀ D c d σ H, w' D c d σ H → w D c d σ H) : HdR X hds w' := ⟨fun D pins σ H a B cls d sI s' h3 C z => h.run D pins σ H a B cls d sI s' h3 C (q _ _ _ _ _ z)⟩
section
variable {X : Cx} {W : WX} {hds : List ExceptHandler} {hd : Ex → Ev → So} {s : Ev → So}
theorem hx_nil (hs : X.stack = X.env :: X.outer) (hf : X.env.frame = some X.env.locals) (tk : Takes X W) : HX X W [] hNil :=
  ⟨(hdr_nil hs hf tk).imp fun D c d σ H ⟨B, G, E, x, e, q, h⟩ => h c d σ G H .refl e q⟩
theorem EnvOk.setExc {K : Fx} {B G H : Hp} {E : Ev} {σ : St} (x : EnvOk K B G H E σ) {i : Nat} {y : Ex} {a C : Addr} {oe : Obj} (hp : K.pn.head? = some (a, oe)) (hc : oe.cls = .ref C) (hm : K.mg y.cls = some (.ref C)) (q : ExD K.K G y oe.dict) :
    EnvOk K B G H (E.set i (.exc y)) (σ.set i (some (.ref a))) :=
  x.put (F' := []) x.bh (.refl _) x.gh ⟨rfl, a, oe, C, hp, rfl, hc, hm, q⟩ fun F f => ⟨(fun a h => nomatch h), fun j a _ ha => ⟨(fun z => nomatch z), (f.fr j a ha).2.1, rfl⟩⟩
theorem hx_as {t : Expr} {c : Value} {n : Str} {i : Nat} {b₀ : Stmt} {suite : List Stmt} {pos : Pos} {tbl : List (Str × Bool)} (hN : X.N.Nodup) (hi : X.N[i]? = some n) (hln : X.env.kindOf n = some .local) (hc : ClsT X t c) (tb : Tbl X c tbl)
    (hsu : ∀ (a : Addr) (oe : Obj) (pn : List (Addr × Obj)) (cls : Value) (d : Option Addr), Zc cls d oe → (∃ vs, oe.data = .fields vs) → PSSX (X.suite a ((a, oe) :: pn)) W0 (b₀ :: suite) s) (hr : HX X W hds hd) :
    HX X W (.ExceptHandler (some t) (some n) (b₀ :: suite) pos :: hds) (hAs tbl i s hd) := by
  refine ⟨(hdr_as hN hi hln hc (fun a oe pn cls d hz hv => (hsu a oe pn cls d hz hv).ps) hr.hd).imp fun D cls d σ H ⟨B, G, E, x, e, q, h⟩ => ?_⟩
  obtain ⟨⟨Ca, hm, rfl⟩, q2⟩ := q
  unfold hAs at h
  cases hl : tbl.lookup x.cls with
  | none => rw [hl] at h; exact h.elim
  | some b =>
    rw [hl] at h
    refine ⟨b, tb _ _ hl Ca hm, fun hb a oe pn na hz hv => ?_, fun hb => ?_⟩
    · subst hb
      have h : Fin X W B G D (if noExc E = true then unx i (s (E.set i (.exc x))) else .bad) := h
      by_cases hn : noExc E = true
      case neg =>
        rw [if_neg hn] at h
        exact h.elim
      rw [if_pos hn] at h
      have e' : EnvOk (X.suite a ((a, oe) :: pn)).fx B G H (E.set i (.exc x)) (σ.set i (some (.ref a))) := (e.to (K' := (X.suite a ((a, oe) :: pn)).fx) rfl hn).setExc rfl hz.1 hm (by rw [hz.2]; exact q2)
      refine ⟨B, G, _, e', ?_⟩
      unfold unx at h
      cases hs : s (E.set i (.exc x)) with
      | nx E2 =>
        rw [hs] at h
        intro σ' G' H' y e2
        by_cases h2 : noExc (E2.set i .un) = true
        · simp only [h2, if_true] at h
          exact h _ G' H' y ((e2.setUn (i := i) (o := none)).to (K' := X.fx) rfl h2)
        · simp only [h2, if_false] at h
          exact h.elim
      | bk E2 =>
        rw [hs] at h
        intro σ' G' H' y e2
        by_cases h2 : noExc (E2.set i .un) = true
        · simp only [h2, if_true] at h
          exact h _ G' H' y ((e2.setUn (i := i) (o := none)).to (K' := X.fx) rfl h2)
        · simp only [h2, if_false] at h
          exact h.elim
      | ct E2 =>
        rw [hs] at h
        intro σ' G' H' y e2
        by_cases h2 : noExc (E2.set i .un) = true
        · simp only [h2, if_true] at h
          exact h _ G' H' y ((e2.setUn (i := i) (o := none)).to (K' := X.fx) rfl h2)
        · simp only [h2, if_false] at h
          exact h.elim
      | rt d => rw [hs] at h; exact h
      | er z E2 => rw [hs] at h; exact h.elim
      | bad => rw [hs] at h; exact h.elim
    · subst hb
      exact ⟨B, G, E, x, e, ⟨⟨Ca, hm, rfl⟩, q2⟩, h⟩
theorem hx_only {t : Expr} {c : Value} {b₀ : Stmt} {suite : List Stmt} {pos : Pos} {tbl : List (Str × Bool)} (hc : ClsT X t c) (tb : Tbl X c tbl)
    (hsu : ∀ (a : Addr) (oe : Obj) (pn : List (Addr × Obj)) (cls : Value) (d : Option Addr), Zc cls d oe → (∃ vs, oe.data = .fields vs) → PSSX (X.suite a ((a, oe) :: pn)) W0 (b₀ :: suite) s) (hr : HX X W hds hd) :
    HX X W (.ExceptHandler (some t) none (b₀ :: suite) pos :: hds) (hOnly tbl s hd) := by
  refine ⟨(hdr_only hc (fun a oe pn cls d hz hv => (hsu a oe pn cls d hz hv).ps) hr.hd).imp fun D cls d σ H ⟨B, G, E, x, e, q, h⟩ => ?_⟩
  obtain ⟨⟨Ca, hm, rfl⟩, q2⟩ := q
  unfold hOnly at h
  cases hl : tbl.lookup x.cls with
  | none => rw [hl] at h; exact h.elim
  | some b =>
    rw [hl] at h
    refine ⟨b, tb _ _ hl Ca hm, fun hb a oe pn na hz hv => ?_, fun hb => ?_⟩
    · subst hb
      have h : Fin X W B G D (if noExc E = true then noEr (s E) else .bad) := h
      by_cases hn : noExc E = true
      case neg =>
        rw [if_neg hn] at h
        exact h.elim
      rw [if_pos hn] at h
      refine ⟨B, G, E, e.to (K' := (X.suite a ((a, oe) :: pn)).fx) rfl hn, ?_⟩
      unfold noEr at h
      cases hs : s E with
      | nx E2 =>
        rw [hs] at h
        intro σ' G' H' y e2
        by_cases h2 : noExc E2 = true
        · simp only [chk, h2, if_true] at h
          exact h _ G' H' y (e2.to (K' := X.fx) rfl h2)
        · simp only [chk, h2, if_false] at h
          exact h.elim
      | bk E2 =>
        rw [hs] at h
        intro σ' G' H' y e2
        by_cases h2 : noExc E2 = true
        · simp only [chk, h2, if_true] at h
          exact h _ G' H' y (e2.to (K' := X.fx) rfl h2)
        · simp only [chk, h2, if_false] at h
          exact h.elim
      | ct E2 =>
        rw [hs] at h
        intro σ' G' H' y e2
        by_cases h2 : noExc E2 = true
        · simp only [chk, h2, if_true] at h
          exact h _ G' H' y (e2.to (K' := X.fx) rfl h2)
        · simp only [chk, h2, if_false] at h
          exact h.elim
      | rt d => rw [hs] at h; exact h
      | er z E2 => rw [hs] at h; exact h.elim
      | bad => rw [hs] at h; exact h.elim
    · subst hb
      exact ⟨B, G, E, x, e, ⟨⟨Ca, hm, rfl⟩, q2⟩, h⟩
theorem psx_try {body : List Stmt} {h₀ : ExceptHandler} {pos : Pos} {g : Ev → So} (hs : X.stack = X.env :: X.outer) (hf : X.env.frame = some X.env.locals)
    (hb : ∀ (W' : WX) (pn : List (Addr × Obj)) (xe : Value → Shared → Prop), Takes (X.tr pn xe) W' → PassesOwn (model X.prog X.w) X.A X.env xe → PSSX (X.tr pn xe) W' body g) (hh : HX X W (h₀ :: hds) hd) :
    PSX X W (.Try body (h₀ :: hds) [] [] pos) (sTry g hd) := by
  refine ⟨PS.imp (ps_try_gen (tb := fun W' => SR { X with pn := [] } W' fun E => if noExc E = true then chk (g E) else .bad) hs hf (fun W' pn xe tk po => PSs.imp (hb W' pn xe tk po).ps fun D σ H ⟨B, G, E, e, h⟩ => ?_) hh.hd) fun D σ H ⟨B, G, E, e, h⟩ => ?_⟩
  · have h : Fin _ _ B G D (if noExc E = true then chk (g E) else .bad) := h
    by_cases hn : noExc E = true
    case neg =>
      rw [if_neg hn] at h
      exact h.elim
    rw [if_pos hn] at h
    refine ⟨B, G, E, e.to (K' := (X.tr pn xe).fx) rfl hn, ?_⟩
    cases hg : g E with
    | nx E2 =>
      rw [hg] at h
      intro σ' G' H' y e2
      by_cases h2 : noExc E2 = true
      · simp only [chk, h2, if_true] at h
        exact h _ G' H' y (e2.to rfl h2)
      · simp only [chk, h2, if_false] at h
        exact h.elim
    | bk E2 =>
      rw [hg] at h
      intro σ' G' H' y e2
      by_cases h2 : noExc E2 = true
      · simp only [chk, h2, if_true] at h
        exact h _ G' H' y (e2.to rfl h2)
      · simp only [chk, h2, if_false] at h
        exact h.elim
    | ct E2 =>
      rw [hg] at h
      intro σ' G' H' y e2
      by_cases h2 : noExc E2 = true
      · simp only [chk, h2, if_true] at h
        exact h _ G' H' y (e2.to rfl h2)
      · simp only [chk, h2, if_false] at h
        exact h.elim
    | er z E2 =>
      rw [hg] at h
      intro C dx σ' G' H' y e2 q
      by_cases h2 : noExc E2 = true
      · simp only [chk, h2, if_true] at h
        exact h C dx _ G' H' y (e2.to rfl h2) q
      · simp only [chk, h2, if_false] at h
        exact h.elim
    | rt d => rw [hg] at h; exact h
    | bad => rw [hg] at h; exact h
  · unfold sTry at h
    by_cases hn : noExc E = true
    case neg =>
      rw [if_neg hn] at h
      exact h.elim
    rw [if_pos hn] at h
    refine ⟨B, G, E, e.to (K' := ({ X with pn := [] } : Cx).fx) rfl hn, ?_⟩
    show Fin _ _ _ _ _ (if noExc E = true then chk (g E) else .bad)
    rw [if_pos hn]
    have key : ∀ E2 : Ev, noExc E2 = true → ∀ {σ' G' H'}, EnvOk ({ X with pn := [] } : Cx).fx B G' H' E2 σ' → EnvOk X.fx B G' H' E2 σ' := fun E2 h2 σ' G' H' z => z.to rfl h2
    cases hg : chk (g E) with
    | nx E2 =>
      rw [hg] at h
      intro σ' G' H' y e2
      exact h _ G' H' y (key E2 (by
        cases hq : g E <;> rw [hq] at hg <;> simp only [chk] at hg <;> (try split at hg) <;> (first | (cases hg; done) | skip)
        cases hg
        assumption) e2)
    | bk E2 =>
      rw [hg] at h
      intro σ' G' H' y e2
      exact h _ G' H' y (key E2 (by
        cases hq : g E <;> rw [hq] at hg <;> simp only [chk] at hg <;> (try split at hg) <;> (first | (cases hg; done) | skip)
        cases hg
        assumption) e2)
    | ct E2 =>
      rw [hg] at h
      intro σ' G' H' y e2
      exact h _ G' H' y (key E2 (by
        cases hq : g E <;> rw [hq] at hg <;> simp only [chk] at hg <;> (try split at hg) <;> (first | (cases hg; done) | skip)
        cases hg
        assumption) e2)
    | er z E2 =>
      rw [hg] at h
      intro C dx σ' G' H' y e2 q
      exact ⟨B, G', E2, z, key E2 (by
        cases hq : g E <;> rw [hq] at hg <;> simp only [chk] at hg <;> (try split at hg) <;> (first | (cases hg; done) | skip)
        cases hg
        assumption) e2, q, Fin.grow y h⟩
    | rt d => rw [hg] at h; exact h
    | bad => rw [hg] at h; exact h
end
end PL
set_option maxHeartbeats 1000000
/-! The plain layer: what is not reached; a new sum of lists; one's own list read for an atom; min, max of two pairs of ints; e.f, isinstance(e, T). -/
namespace PL
open PySem L2
open PyProof.Rows hiding St
open PySem.W (AlikeAll dataLt alike iter_tupleW cmpIn_lt cmpIn_gt moved_old)
/-! ### what is not reached -/
def eBad (_ : Ev) : Rs Dt := .bad
def sBad (_ : Ev) : So := .bad
section
variable {X : Cx} {W : WX} {e a b : Expr} {st : Stmt} {sts : List Stmt} {f fa fb : Ev → Rs Dt} {t : Ev → Rs Bool} {pos : Pos} {σ : St} {G H B : Hp} {E : Ev}
theorem px_bad : PX X W e eBad := ⟨⟨fun _ _ _ _ _ _ ⟨_, _, _, _, h⟩ => h.elim⟩⟩
theorem psx_bad : PSX X W st sBad := ⟨⟨fun _ _ _ _ _ _ ⟨_, _, _, _, h⟩ => h.elim⟩⟩
theorem pssx_bad : PSSX X W sts sBad := ⟨⟨fun _ _ _ _ _ _ ⟨_, _, _, _, h⟩ => h.elim⟩⟩
/-! ### xs + ys, new -/
def oAdd (a b : Ev → Rs Dt) (E : Ev) : Rs (List Dt) := (a E).bind fun x => (b E).bind fun y => match x, y with
  | .lst l, .lst m => if l.length + m.length ≤ 1000000 then .ok (l ++ m) else .bad
  | _, _ => .bad
theorem pox_add (ha : PX X W a fa) (hb : PX X W b fb) : POX X W (.BinOp a .Add b pos) (oAdd fa fb) := by
  refine ⟨PE.imp (pe_op op_cat ha.pe hb.pe) fun σ H Q ⟨B, G, E, x, h⟩ => ?_⟩
  refine xr_bind x h fun d v G1 H1 g1 x1 r1 h1 => xr_bind x1 h1 fun d2 v2 G2 H2 g2 x2 r2 h2 => ?_
  have r1 := r1.mono g2.g
  match d, d2, r1, r2, h2 with
  | .lst l, .lst m, r1, r2, h2 =>
    have h2 : After X W σ G2 H2 (if l.length + m.length ≤ 1000000 then Rs.ok (l ++ m) else .bad) _ := h2
    by_cases hl : l.length + m.length ≤ 1000000
    · rw [if_pos hl] at h2
      cases r1 with
      | lst z1 l1 =>
        cases r2 with
        | lst z2 l2 =>
          refine ⟨_, _, _, _, rfl, rfl, x2.gh _ _ z1, x2.gh _ _ z2, ?_, fun p n => h2.ok x2.gh p _ n (l1.append l2)⟩
          rw [← l1.length, ← l2.length]
          exact line_ge hl
    · rw [if_neg hl] at h2
      exact h2.elim
/-! ### one's own list read -/
def bOwn (i : Nat) (t : Ev → Rs Bool) (E : Ev) : Rs Bool := match E[i]? with
  | some (.own l) => match t (E.set i (.val (.lst l))) with
    | .ok b => .ok b
    | _ => .bad
  | _ => t E
def isAtom : Dt → Bool
  | .non => true
  | .bl _ => true
  | .int _ => true
  | _ => false
def eOwn (i : Nat) (f : Ev → Rs Dt) (E : Ev) : Rs Dt := match E[i]? with
  | some (.own l) => match f (E.set i (.val (.lst l))) with
    | .ok d => if isAtom d = true then .ok d else .bad
    | _ => .bad
  | _ => f E
theorem gr_back {G H G' H' : Hp} {a : Addr} {o : HO} (s : Same G H) (ga : G a = none) (ha : H a = some o) (r : Gr (upd G a o) H G' H') : Gr G H (fun p => if p = a then none else G' p) H' := by
  refine ⟨r.h, fun p x e => ?_, fun p x e => ?_, fun p hp gp => ?_⟩
  · have hpa : p ≠ a := fun z => by rw [z, ga] at e; cases e
    show (if p = a then none else G' p) = some x
    rw [if_neg hpa]
    exact r.g p x (by rw [upd_ne hpa]; exact e)
  · have e : (if p = a then none else G' p) = some x := e
    by_cases hpa : p = a
    · rw [if_pos hpa] at e; cases e
    · rw [if_neg hpa] at e
      exact r.gh p x e
  · show (if p = a then none else G' p) = none
    by_cases hpa : p = a
    · rw [if_pos hpa]
    · rw [if_neg hpa]
      exact r.fr p hp (by rw [upd_ne hpa]; exact gp)
/-- the slot's list, as if frozen -/
theorem own_as {K : Fx} {i : Nat} {l : List Dt} (x : EnvOk K B G H E σ) (e : E[i]? = some (.own l)) : ∃ a o, G a = none ∧ H a = some o ∧ EnvOk K B (upd G a o) H (E.set i (.val (.lst l))) σ := by
  obtain ⟨F, a, vs, f, hF, e2, e3, r⟩ := own_at x e
  obtain ⟨h1, h2⟩ := EnvOk.freeze x e e2 e3 r
  exact ⟨a, _, (f.fr i a (f.one hF)).2.1, e3, h1⟩
theorem ptx_own {i : Nat} (h : PTX X W e t) : PTX X W e (bOwn i t) := by
  refine ⟨PT.imp h.pt fun σ H Q ⟨B, G, E, x, h⟩ => ?_⟩
  unfold bOwn at h
  split at h
  · rename_i l he
    obtain ⟨a, o, ga, ha, x1⟩ := own_as x he
    refine ⟨B, _, _, x1, ?_⟩
    cases ht : t (E.set i (.val (.lst l))) with
    | ok b =>
      rw [ht] at h
      exact fun G' H' gr => h _ H' (gr_back x.gh ga ha gr)
    | err y => rw [ht] at h; exact h.elim
    | bad => rw [ht] at h; exact h.elim
  · exact ⟨B, G, E, x, h⟩
theorem px_own {i : Nat} (h : PX X W e f) : PX X W e (eOwn i f) := by
  refine ⟨PE.imp h.pe fun σ H Q ⟨B, G, E, x, h⟩ => ?_⟩
  unfold eOwn at h
  split at h
  · rename_i l he
    obtain ⟨a, o, ga, ha, x1⟩ := own_as x he
    refine ⟨B, _, _, x1, ?_⟩
    cases ht : f (E.set i (.val (.lst l))) with
    | ok b =>
      rw [ht] at h
      have h : After X W σ G H (if isAtom b = true then .ok b else .bad) _ := h
      by_cases hb : isAtom b = true
      · rw [if_pos hb] at h
        refine fun G' H' gr v r => h _ H' (gr_back x.gh ga ha gr) v ?_
        cases r <;> first | (cases hb; done) | skip
        · exact .non
        · exact .bl _
        · exact .int _
      · rw [if_neg hb] at h
        exact h.elim
    | err y => rw [ht] at h; exact h.elim
    | bad => rw [ht] at h; exact h.elim
  · exact ⟨B, G, E, x, h⟩
end
/-! ### min, max of two pairs of ints -/
section
variable {prog : Program} {w : World} {A : Around} {E : Value → Shared → Prop} {s : Shared} {a b : Value} {px py : PyData} {as : List Addr} {Q : Value → Shared → Prop}
theorem keep_two {H : Heap} {o : Obj} : ∀ c ob, H.get? c = some ob → (H.push o).get? c = some ob := fun c ob e => Heap.get?_push_of_some _ e
theorem min2_data (hh : A.handled = none) (hr : ReadsAll s.heap [a, b] [px, py] as) (ha : AlikeAll [px, py]) (hu : A.units + 1 + PyData.depthAll [px, py] < cLine)
    (h : ∀ h' tk, (∀ c o, s.heap.get? c = some o → h'.get? c = some o) → Q (if dataLt py px = true then b else a) { s with heap := h', toks := tk }) : wpAny (model prog w) A (call (.builtin "min") [a, b]) Q E s := by
  have hname : (toString "min" ++ toString ".loop" : String) = "min.loop" := by decide
  let o : Obj := { cls := .type "tuple", data := .seq #[a, b] }
  have hT : (s.heap.push o).IsTuple s.heap.objs.size #[a, b] := ⟨_, Heap.get?_push_size _ rfl, rfl, 0, rfl⟩
  have hr1 : ReadsAll (s.heap.push o) (#[a, b] : Array Value).toList [px, py] as := ReadsAll.keeps keep_two hr
  refine call_function_tree F.kind_min F.plain_min F.entry_min (F.args_min2 _ _) ?_
  show wpAny _ A.in1 (Builtin.Builtins.bindParams "min" ["key", "default"] 0 ⟨[], []⟩ >>= _) _ _ s
  refine wpAny_bind (wpAny_of_eq (show Builtin.Builtins.bindParams "min" ["key", "default"] 0 ⟨[], []⟩ = pure [none, none] from rfl) ?_)
  show wpAny _ A.in1 (newTuple [a, b] >>= _) _ _ s
  refine wpAny_bind (wpAny_newObj_type ?_)
  refine wpAny_bind (iter_tupleW (A := A.in1) (s := { s with heap := s.heap.push o }) hh hT fun s₂ e W st hfp hw hk => ?_)
  refine wpAny_bind (wpAny_newObj_type ?_)
  rw [hname]
  refine wpAny_pure ⟨plainId_quiet F.plain_min_loop _, codeAny_min_loop_firstH W (s.heap.push o) hw _ (cmpIn_lt (s := { s with heap := s.heap.push o }) (A := A.in1) hr1 ha (by show A.units + 1 + _ < _; exact hu)) s₂.heap.objs.size (fun hm => Nat.lt_irrefl _ (hfp _ hm)) (fresh_in hk) _ (show 0 < 2 from by decide)
    (fun b o e => Heap.get?_push_of_some _ (hk b o e)) (W.frame 0 s₂ _ s₂.toks st (Nat.le_refl _) fun b _ o e => Heap.get?_push_of_some _ e) (Heap.get?_push_size _ rfl) fun v s' hP hm => ?_⟩
  obtain ⟨h', tk, rfl, hk'⟩ := moved_old (s := { s with heap := s.heap.push o }) e rfl (Moved.drop_new (tk := s₂.toks) hm (Nat.le_refl _))
  have hv : v = if dataLt py px = true then b else a := by
    have hP : (#[a, b] : Array Value)[argBest (fun i j => dataLt ([px, py].getD i .none) ([px, py].getD j .none)) 1]? = some v := hP
    by_cases hd : dataLt py px = true
    · rw [if_pos hd]
      have e : argBest (fun i j => dataLt ([px, py].getD i .none) ([px, py].getD j .none)) 1 = 1 := by simp [argBest, hd]
      rw [e] at hP
      simpa using hP.symm
    · rw [if_neg hd]
      have e : argBest (fun i j => dataLt ([px, py].getD i .none) ([px, py].getD j .none)) 1 = 0 := by simp [argBest, hd]
      rw [e] at hP
      simpa using hP.symm
  rw [hv]
  exact h h' tk fun c ob e => hk' c ob (keep_two c ob e)
theorem max2_data (hh : A.handled = none) (hr : ReadsAll s.heap [a, b] [px, py] as) (ha : AlikeAll [px, py]) (hu : A.units + 1 + PyData.depthAll [px, py] < cLine)
    (h : ∀ h' tk, (∀ c o, s.heap.get? c = some o → h'.get? c = some o) → Q (if dataLt px py = true then b else a) { s with heap := h', toks := tk }) : wpAny (model prog w) A (call (.builtin "max") [a, b]) Q E s := by
  have hname : (toString "max" ++ toString ".loop" : String) = "max.loop" := by decide
  let o : Obj := { cls := .type "tuple", data := .seq #[a, b] }
  have hT : (s.heap.push o).IsTuple s.heap.objs.size #[a, b] := ⟨_, Heap.get?_push_size _ rfl, rfl, 0, rfl⟩
  have hr1 : ReadsAll (s.heap.push o) (#[a, b] : Array Value).toList [px, py] as := ReadsAll.keeps keep_two hr
  refine call_function_tree F.kind_max F.plain_max F.entry_max (F.args_max2 _ _) ?_
  show wpAny _ A.in1 (Builtin.Builtins.bindParams "max" ["key", "default"] 0 ⟨[], []⟩ >>= _) _ _ s
  refine wpAny_bind (wpAny_of_eq (show Builtin.Builtins.bindParams "max" ["key", "default"] 0 ⟨[], []⟩ = pure [none, none] from rfl) ?_)
  show wpAny _ A.in1 (newTuple [a, b] >>= _) _ _ s
  refine wpAny_bind (wpAny_newObj_type ?_)
  refine wpAny_bind (iter_tupleW (A := A.in1) (s := { s with heap := s.heap.push o }) hh hT fun s₂ e W st hfp hw hk => ?_)
  refine wpAny_bind (wpAny_newObj_type ?_)
  rw [hname]
  refine wpAny_pure ⟨plainId_quiet F.plain_max_loop _, codeAny_max_loop_firstH W (s.heap.push o) hw _ (cmpIn_gt (s := { s with heap := s.heap.push o }) (A := A.in1) hr1 ha (by show A.units + 1 + _ < _; exact hu)) s₂.heap.objs.size (fun hm => Nat.lt_irrefl _ (hfp _ hm)) (fresh_in hk) _ (show 0 < 2 from by decide)
    (fun b o e => Heap.get?_push_of_some _ (hk b o e)) (W.frame 0 s₂ _ s₂.toks st (Nat.le_refl _) fun b _ o e => Heap.get?_push_of_some _ e) (Heap.get?_push_size _ rfl) fun v s' hP hm => ?_⟩
  obtain ⟨h', tk, rfl, hk'⟩ := moved_old (s := { s with heap := s.heap.push o }) e rfl (Moved.drop_new (tk := s₂.toks) hm (Nat.le_refl _))
  have hv : v = if dataLt px py = true then b else a := by
    have hP : (#[a, b] : Array Value)[argBest (fun i j => dataLt ([px, py].getD j .none) ([px, py].getD i .none)) 1]? = some v := hP
    by_cases hd : dataLt px py = true
    · rw [if_pos hd]
      have e : argBest (fun i j => dataLt ([px, py].getD j .none) ([px, py].getD i .none)) 1 = 1 := by simp [argBest, hd]
      rw [e] at hP
      simpa using hP.symm
    · rw [if_neg hd]
      have e : argBest (fun i j => dataLt ([px, py].getD j .none) ([px, py].getD i .none)) 1 = 0 := by simp [argBest, hd]
      rw [e] at hP
      simpa using hP.symm
  rw [hv]
  exact h h' tk fun c ob e => hk' c ob (keep_two c ob e)
end
/-- the two are of one kind, and not deep -/
def pairOk (x y : Dt) : Bool := cmpOk 60 x && cmpOk 60 y && (alike (toPy x) (toPy y) && alike (toPy y) (toPy x) && alike (toPy x) (toPy x) && alike (toPy y) (toPy y)) && !isNon x && !isNon y
def ltD (x y : Dt) : Bool := dataLt (toPy x) (toPy y)
def gMinD : List Dt → Option Dt
  | [x, y] => if pairOk x y = true then some (if ltD y x = true then y else x) else none
  | _ => none
def gMaxD : List Dt → Option Dt
  | [x, y] => if pairOk x y = true then some (if ltD x y = true then y else x) else none
  | _ => none
abbrev rMinD (K : PySem.W.Frag) : List V → Hp → VK → Prop := fun xs H Q => ∃ x y px py, xs = [x, y] ∧ Dp K H x px ∧ Dp K H y py ∧ AlikeAll [px, py] ∧ px.depth ≤ 60 ∧ py.depth ≤ 60 ∧ Q (if dataLt py px = true then y else x) H
abbrev rMaxD (K : PySem.W.Frag) : List V → Hp → VK → Prop := fun xs H Q => ∃ x y px py, xs = [x, y] ∧ Dp K H x px ∧ Dp K H y py ∧ AlikeAll [px, py] ∧ px.depth ≤ 60 ∧ py.depth ≤ 60 ∧ Q (if dataLt px py = true then y else x) H
theorem depth2 {px py : PyData} (h1 : px.depth ≤ 60) (h2 : py.depth ≤ 60) : PyData.depthAll [px, py] ≤ 60 := by
  simp only [PyData.depthAll]
  omega
section
variable {X : Cx}
theorem call_minD (hc : X.calm = true) (hu : X.A.units + 65 < cLine) : CallR X (.builtin "min") (rMinD X.K) := by
  intro pins s σ H xs us Q I r h
  obtain ⟨x, y, px, py, rfl, d1, d2, al, e1, e2, q⟩ := h
  obtain ⟨u, w', rfl, r1, r2⟩ := vals2 r
  obtain ⟨as, rd⟩ := Dp.readsAll I [px, py] [x, y] [u, w'] (.cons d1 (.cons d2 .nil)) r
  have := depth2 e1 e2
  refine min2_data (I.ok.hd hc) rd al (by omega) fun h' tk k => ⟨_, H, I.kept k, ?_, q⟩
  by_cases hd : dataLt py px = true
  · rw [if_pos hd, if_pos hd]; exact r2
  · rw [if_neg hd, if_neg hd]; exact r1
theorem call_maxD (hc : X.calm = true) (hu : X.A.units + 65 < cLine) : CallR X (.builtin "max") (rMaxD X.K) := by
  intro pins s σ H xs us Q I r h
  obtain ⟨x, y, px, py, rfl, d1, d2, al, e1, e2, q⟩ := h
  obtain ⟨u, w', rfl, r1, r2⟩ := vals2 r
  obtain ⟨as, rd⟩ := Dp.readsAll I [px, py] [x, y] [u, w'] (.cons d1 (.cons d2 .nil)) r
  have := depth2 e1 e2
  refine max2_data (I.ok.hd hc) rd al (by omega) fun h' tk k => ⟨_, H, I.kept k, ?_, q⟩
  by_cases hd : dataLt px py = true
  · rw [if_pos hd, if_pos hd]; exact r2
  · rw [if_neg hd, if_neg hd]; exact r1
theorem toPy_non {x : Dt} (h : cmpOk 60 x = true) (n : isNon x = false) : toPy x ≠ .none := by
  cases x <;> first | (cases n; done) | (cases h; done) | (intro z; simp [toPy] at z; done) | skip
theorem pair_of {G H : Hp} {x y : Dt} {v w : V} (s : Same G H) (r1 : Den X.K G x v) (r2 : Den X.K G y w) (h : pairOk x y = true) : Dp X.K H v (toPy x) ∧ Dp X.K H w (toPy y) ∧ AlikeAll [toPy x, toPy y] ∧ (toPy x).depth ≤ 60 ∧ (toPy y).depth ≤ 60 := by
  simp only [pairOk, Bool.and_eq_true, Bool.not_eq_true'] at h
  obtain ⟨⟨⟨⟨c1, c2⟩, ⟨⟨a1, a2⟩, a3⟩, a4⟩, n1⟩, n2⟩ := h
  obtain ⟨p1, _, q1⟩ := dp_of (r1.mono s) c1
  obtain ⟨p2, _, q2⟩ := dp_of (r2.mono s) c2
  refine ⟨p1, p2, ⟨?_, ?_⟩, q1, q2⟩
  · intro z hz u hu
    simp only [List.mem_cons, List.not_mem_nil, or_false] at hz hu
    rcases hz with rfl | rfl <;> rcases hu with rfl | rfl <;> assumption
  · intro z hz
    simp only [List.mem_cons, List.not_mem_nil, or_false] at hz
    rcases hz with rfl | rfl
    · exact toPy_non c1 n1
    · exact toPy_non c2 n2
theorem snd_minD : SndC X (rMinD X.K) gMinD := by
  intro G H xs d vs Q s r e q
  match xs, e with
  | [x, y], e =>
    have e : (if pairOk x y = true then some (if ltD y x = true then y else x) else none) = some d := e
    by_cases hp : pairOk x y = true
    · rw [if_pos hp] at e
      cases e
      obtain ⟨v, w, rfl, r1, r2⟩ := den2 r
      obtain ⟨p1, p2, al, q1, q2⟩ := pair_of s r1 r2 hp
      refine ⟨v, w, _, _, rfl, p1, p2, al, q1, q2, q _ G H (.refl s) ?_⟩
      by_cases hd : ltD y x = true
      · rw [if_pos hd, if_pos (show dataLt (toPy y) (toPy x) = true from hd)]; exact r2
      · rw [if_neg hd, if_neg (show ¬ dataLt (toPy y) (toPy x) = true from hd)]; exact r1
    · rw [if_neg hp] at e
      cases e
theorem snd_maxD : SndC X (rMaxD X.K) gMaxD := by
  intro G H xs d vs Q s r e q
  match xs, e with
  | [x, y], e =>
    have e : (if pairOk x y = true then some (if ltD x y = true then y else x) else none) = some d := e
    by_cases hp : pairOk x y = true
    · rw [if_pos hp] at e
      cases e
      obtain ⟨v, w, rfl, r1, r2⟩ := den2 r
      obtain ⟨p1, p2, al, q1, q2⟩ := pair_of s r1 r2 hp
      refine ⟨v, w, _, _, rfl, p1, p2, al, q1, q2, q _ G H (.refl s) ?_⟩
      by_cases hd : ltD x y = true
      · rw [if_pos hd, if_pos (show dataLt (toPy x) (toPy y) = true from hd)]; exact r2
      · rw [if_neg hd, if_neg (show ¬ dataLt (toPy x) (toPy y) = true from hd)]; exact r1
    · rw [if_neg hp] at e
      cases e
end
end PL
set_option maxHeartbeats 1000000
/-! The plain layer: e.f and isinstance(e, T), e the error that a suite handles. -/
namespace PL
open PySem L2
open PyProof.Rows hiding St
def eFld (names : List Str) (i : Nat) (f : Str) (E : Ev) : Rs Dt := match E[i]? with
  | some (.exc x) => if names.contains x.cls = true then Rs.of (x.fs.lookup f) else .bad
  | _ => .bad
def eIsE (tbl : List (Str × Bool)) (i : Nat) (E : Ev) : Rs Dt := match E[i]? with
  | some (.exc x) => (Rs.of (tbl.lookup x.cls)).bind fun b => .ok (.bl b)
  | _ => .bad
/-- the classes whose instances have the field f -/
def FldT (K : PySem.W.Frag) (mg : Str → Option Value) (names : List Str) (f : Str) : Prop := ∀ n ∈ names, ∀ C, mg n = some (.ref C) → XfC K C ∧ PySem.W.findIn K (.ref C) f = some none
/-- how isinstance answers -/
def IsT (K : PySem.W.Frag) (mg : Str → Option Value) (c : Value) (tbl : List (Str × Bool)) : Prop := ∀ n b, tbl.lookup n = some b → ∀ C, mg n = some (.ref C) → ExcC K C ∧ PySem.W.kitOne K (.ref C) c = some b
section
variable {X : Cx} {W : WX} {a : Addr} {oe : Obj} {pn : List (Addr × Obj)} {i : Nat} {x f : Str} {p p1 p2 pos : Pos} {names : List Str} {tbl : List (Str × Bool)}
theorem px_fld (T : FldT X.K X.mg names f) (hf : ∃ vs, oe.data = .fields vs) (hN : X.N[i]? = some x := by rfl) (hv : Vis X.env.scope x := by first | exact Or.inl rfl | exact Or.inr (Or.inl rfl) | exact Or.inr (Or.inr rfl)) (hd : (x == ("__debug__" : Str)) = false := by decide)
    (hcd : (x == ("__classdict__" : Str)) = false := by decide) (hb : attributeBase (.Name x p) f X.env (eval (.Name x p) X.env) = eval (.Name x p) X.env := by rfl) : PX (X.suite a ((a, oe) :: pn)) W (.Attribute (.Name x p) f pos) (eFld names i f) := by
  refine ⟨⟨fun pins s σ H Q I ⟨B, G, E, x1, h⟩ => ?_⟩⟩
  unfold eFld at h
  split at h
  · rename_i y he
    by_cases hn : names.contains y.cls = true
    case neg => rw [if_neg hn] at h; exact h.elim
    rw [if_pos hn] at h
    obtain ⟨F, fp⟩ := x1.fp
    obtain ⟨_, a', oe', C, hp, ho, hc, hm, hx⟩ := fp.sl i _ he
    have hp : some (a, oe) = some (a', oe') := hp
    cases hp
    obtain ⟨hXf, hno⟩ := T y.cls (by simpa using hn) C hm
    obtain ⟨d, hl, k⟩ := h.of
    have pv : PE (X.suite a ((a, oe) :: pn)) (.Name x p) (tVar i) := pe_var (X := X.suite a ((a, oe) :: pn)) hN hv hd hcd
    refine (pe_xf (X := X) (oe := oe) (pn := pn) (d := oe.dict) hXf hno ⟨hc, rfl⟩ hf pv hb).run pins s σ H Q I ?_
    obtain ⟨v, o1, o2⟩ : ∃ v, (σ[i]?).join = some v ∧ v = .ref a := ⟨_, ho, rfl⟩
    subst o2
    refine ⟨_, ?_, rfl, rfl, ?_⟩
    · cases q : σ[i]? with
      | none => rw [q] at o1; cases o1
      | some o =>
        rw [q] at o1
        have o1 : o = some (.ref a) := o1
        rw [o1]
    rcases hx with ⟨e1, e2⟩ | ⟨dd, fs, e1, e2, e3⟩
    · rw [e1] at hl; cases hl
    · obtain ⟨u, hu, ru⟩ := e3 _ _ hl
      exact ⟨dd, fs, u, e1, x1.gh _ _ e2, hu, k G H (.refl x1.gh) u ru⟩
  · exact h.elim
/-- the error's dict, if there is one, is tracked -/
def DictT (oe : Obj) (H : Hp) : Prop := oe.dict = none ∨ ∃ dd fs, oe.dict = some dd ∧ H dd = some (.xd fs)
def rIsE2 (K : PySem.W.Frag) (mg : Str → Option Value) (a : Addr) (oe : Obj) : List V → Hp → VK → Prop := fun xs H Q => ∃ (c : V) (cv : Value) (b : Bool) (D : Addr), xs = [.ref a, c] ∧ (∀ u, RelV c u → u = cv) ∧ oe.cls = .ref D ∧ ExcC K D ∧ PySem.W.kitOne K (.ref D) cv = some b ∧ DictT oe H ∧ Q (.bl b) H
theorem cls_some {K : PySem.W.Frag} {D : Addr} (h : PySem.W.hasDictIn K D = true) : (PySem.W.clsIn K D).isSome = true := by
  obtain ⟨cd, hc, _⟩ := PySem.W.any_some h
  rw [hc]
  rfl
theorem call_isE2 (hf : ∃ vs, oe.data = .fields vs) : CallR (X.suite a ((a, oe) :: pn)) (.builtin "isinstance") (rIsE2 X.K X.mg a oe) := by
  intro pins s σ H xs us Q I r h
  obtain ⟨c, cv, b, D, rfl, hcv, hcl, C, e, hd, q⟩ := h
  obtain ⟨u1, u2, rfl, rx, rt⟩ := vals2 r
  cases rx
  have ec := hcv _ rt
  subst ec
  obtain ⟨hget, _⟩ := I.pin (a, oe) (List.mem_append.mpr (.inl List.mem_cons_self))
  obtain ⟨vs, hv⟩ := hf
  have nc : PySem.W.notCls oe = true := by unfold PySem.W.notCls; rw [hv] <;> rfl
  rcases hd with e0 | ⟨dd, fs, e0, ea⟩
  · have J : PySem.W.InstAt s.heap a oe D none := ⟨hget, hcl, nc, by rw [e0]; trivial⟩
    exact PySem.W.kia_one (PySem.W.kitx_exc (cls_some C.hd) C.hg C.hk C.hs C.ha C.hn C.ht C.hm) I.kIn J e (fun z => nomatch z) fun tk => ⟨.bl b, H, I.kept (t' := tk) fun _ _ z => z, rfl, q⟩
  · have hx : ObjOk X.prog X.w H s.heap dd (.xd fs) := I.hok dd _ ea
    obtain ⟨mA, hns, hr⟩ := hx
    obtain ⟨od, ho, hl⟩ := lookIn_ns hns
    have J : PySem.W.InstAt s.heap a oe D (some od) := ⟨hget, hcl, nc, by rw [e0]; exact ho⟩
    exact PySem.W.kia_one (PySem.W.kitx_exc (cls_some C.hd) C.hg C.hk C.hs C.ha C.hn C.ht C.hm) I.kIn J e (fun z => nomatch z) fun tk => ⟨.bl b, H, I.kept (t' := tk) fun _ _ z => z, rfl, q⟩
theorem px_isE0 {y : Str} {cv : Value} {v : V} (T : IsT X.K X.mg cv tbl) (ht : PE (X.suite a ((a, oe) :: pn)) (.Name y p2) (tC v)) (hr : ∀ u, RelV v u → u = cv) (hf : ∃ vs, oe.data = .fields vs) (hm : X.mg "isinstance" = none) (hN : X.N[i]? = some x) (hv : Vis X.env.scope x) (hd : (x == ("__debug__" : Str)) = false)
    (hcd : (x == ("__classdict__" : Str)) = false) (hg : Gl X "isinstance") (he : starEach [.Name x p1, .Name y p2] X.env = [(false, eval (.Name x p1) X.env), (false, eval (.Name y p2) X.env)]) (he2 : starEach [.Name y p2] X.env = [(false, eval (.Name y p2) X.env)]) :
    PX (X.suite a ((a, oe) :: pn)) W (.Call (.Name "isinstance" p) [.Name x p1, .Name y p2] [] pos) (eIsE tbl i) := by
  refine ⟨⟨fun pins s σ H Q I ⟨B, G, E, x1, h⟩ => ?_⟩⟩
  unfold eIsE at h
  split at h
  · rename_i z he0
    cases hl : tbl.lookup z.cls with
    | none => rw [hl] at h; exact h.elim
    | some b =>
      rw [hl] at h
      obtain ⟨F, fp⟩ := x1.fp
      obtain ⟨_, a', oe', C, hp, ho, hc, hm1, hx⟩ := fp.sl i _ he0
      have hp : some (a, oe) = some (a', oe') := hp
      cases hp
      obtain ⟨hE, hk⟩ := T z.cls b hl C hm1
      have pv : PE (X.suite a ((a, oe) :: pn)) (.Name x p1) (tVar i) := pe_var (X := X.suite a ((a, oe) :: pn)) hN hv hd hcd
      refine (pe_callB (X := X.suite a ((a, oe) :: pn)) (call_isE2 (X := X) (pn := pn) hf) hg hm (by decide +kernel) (pa_cons pv (pa_cons ht pa_nil he2) he) (he := he) (hpl := ?_)).run pins s σ H Q I ?_
      · show (backTo pos (starEach [.Name y p2] X.env)).any (·.1) = false
        rw [he2]
        rfl
      · refine ⟨.ref a, ?_, v, cv, b, C, rfl, hr, hc, hE, hk, ?_, h.ok x1.gh _ (.bl b)⟩
        · have o1 : (σ[i]?).join = some (.ref a) := ho
          cases q : σ[i]? with
          | none => rw [q] at o1; cases o1
          | some o =>
            rw [q] at o1
            have o1 : o = some (.ref a) := o1
            rw [o1]
        · rcases hx with ⟨_, e2⟩ | ⟨dd, fs, e1, e2, _⟩
          · exact .inl e2
          · exact .inr ⟨dd, fs, e1, x1.gh _ _ e2⟩
  · exact h.elim
/-- T an own class -/
theorem px_isE {y : Str} {D : Addr} (hD : X.mg y = some (.ref D)) (T : IsT X.K X.mg (.ref D) tbl) (hf : ∃ vs, oe.data = .fields vs) (hm : X.mg "isinstance" = none) (hN : X.N[i]? = some x := by rfl) (hv : Vis X.env.scope x := by first | exact Or.inl rfl | exact Or.inr (Or.inl rfl) | exact Or.inr (Or.inr rfl))
    (hgy : Gl X y := by rfl) (hdy : (y == ("__debug__" : Str)) = false := by decide) (hd : (x == ("__debug__" : Str)) = false := by decide) (hcd : (x == ("__classdict__" : Str)) = false := by decide) (hg : Gl X "isinstance" := by rfl)
    (he : starEach [.Name x p1, .Name y p2] X.env = [(false, eval (.Name x p1) X.env), (false, eval (.Name y p2) X.env)] := by rfl) (he2 : starEach [.Name y p2] X.env = [(false, eval (.Name y p2) X.env)] := by rfl) :
    PX (X.suite a ((a, oe) :: pn)) W (.Call (.Name "isinstance" p) [.Name x p1, .Name y p2] [] pos) (eIsE tbl i) :=
  px_isE0 (v := .ref D) T (pe_glob (X := X.suite a ((a, oe) :: pn)) hgy hD rfl hdy) (fun u r => r) hf hm hN hv hd hcd hg he he2
/-- T a built-in type -/
theorem px_isEb {y : Str} {n : String} (hy : X.mg y = none) (hb : bootBuiltins y = some (.type n)) (T : IsT X.K X.mg (.type n) tbl) (hf : ∃ vs, oe.data = .fields vs) (hm : X.mg "isinstance" = none) (hN : X.N[i]? = some x := by rfl) (hv : Vis X.env.scope x := by first | exact Or.inl rfl | exact Or.inr (Or.inl rfl) | exact Or.inr (Or.inr rfl))
    (hgy : Gl X y := by rfl) (hny : y ≠ "__name__" := by decide) (hdy : (y == ("__debug__" : Str)) = false := by decide) (hd : (x == ("__debug__" : Str)) = false := by decide) (hcd : (x == ("__classdict__" : Str)) = false := by decide) (hg : Gl X "isinstance" := by rfl)
    (he : starEach [.Name x p1, .Name y p2] X.env = [(false, eval (.Name x p1) X.env), (false, eval (.Name y p2) X.env)] := by rfl) (he2 : starEach [.Name y p2] X.env = [(false, eval (.Name y p2) X.env)] := by rfl) :
    PX (X.suite a ((a, oe) :: pn)) W (.Call (.Name "isinstance" p) [.Name x p1, .Name y p2] [] pos) (eIsE tbl i) :=
  px_isE0 (v := .ty n) T (pe_bltn (X := X.suite a ((a, oe) :: pn)) hgy hy hb rfl hny hdy) (fun u r => r) hf hm hN hv hd hcd hg he he2
end
end PL
set_option maxHeartbeats 1000000
/-! The plain layer: defs by their names. -/
namespace PL
open PySem L2
open PyProof.Rows hiding St
theorem u65 {k : Nat} {A : Around} (r : Room k A) : A.units + 65 < cLine := by
  have := r.un
  omega
theorem tk00 {X : Cx} : Takes X W0 := fun u s' ⟨_, _, _, _, _, _, _, _, _, _, _, _, _, _, _, _, w⟩ => w.elim
/-- what the top has left of a def -/
def FunT (K : PySem.W.Frag) (mg : Str → Option Value) (x : Str) (st : Stmt) (ps : List Str) : Prop := ∃ f fd, Fun K x x st f fd ∧ mg x = some (.ref f) ∧ Binds K fd ps []
/-- a def is the function g -/
def OkF (P : Program) (w : World) (K : PySem.W.Frag) (mg : Str → Option Value) (base : Heap) (x : Str) (k n : Nat) (g : List Dt → Rs Dt) : Prop :=
  ∃ f fd ps, FnOk P w K mg base (L2.CX P w) k f fd ps (spF K mg n g) ∧ mg x = some (.ref f) ∧ PySem.W.keepIn K (.ref f) = true ∧ Binds K fd ps []
section
variable {P : Program} {w : World} {K : PySem.W.Frag} {mg : Str → Option Value} {base : Heap}
theorem okFn {x : Str} {st : Stmt} {f : Addr} {fd : FuncData} {N ps : List Str} {k n : Nat} {g : Ev → So} {fn : List Dt → Rs Dt} (F : Fun K x x st f fd) (S : FnScope N ps (defScope st)) (hn : ps.length = n) (hf : runF N.length g = fn)
    (hbody : ∀ (cdv : Value) (A : Around) (outer : List Env) (s : Shared) (H : Hp) (E : XK), Room k (A.deeper (envOfC x (defScope st) s.heap.objs.size f cdv)) →
      Takes (cxOf (L2.CX P w) P w K mg base N x (defScope st) f cdv A outer s H E) (fun C d _ H => E C d H) →
      PassesOwn (model P w) (cxOf (L2.CX P w) P w K mg base N x (defScope st) f cdv A outer s H E).A (cxOf (L2.CX P w) P w K mg base N x (defScope st) f cdv A outer s H E).env (cxOf (L2.CX P w) P w K mg base N x (defScope st) f cdv A outer s H E).xe →
      PSSX (cxOf (L2.CX P w) P w K mg base N x (defScope st) f cdv A outer s H E) (fun C d _ H => E C d H) (defBody st) g) : FnOk P w K mg base (L2.CX P w) (k + 1) f fd ps (spF K mg n fn) := by
  subst hf
  exact def_ok F S hn fun cdv A outer s H E hr => hbody cdv A outer s H E hr (takes_of rfl rfl rfl rfl) (passes_of rfl)
theorem okF {x : Str} {st : Stmt} {N ps : List Str} {k n : Nat} {g : Ev → So} {fn : List Dt → Rs Dt} (T : FunT K mg x st ps) (S : FnScope N ps (defScope st)) (hn : ps.length = n) (hf : runF N.length g = fn)
    (hbody : ∀ (f : Addr) (cdv : Value) (A : Around) (outer : List Env) (s : Shared) (H : Hp) (E : XK), Room k (A.deeper (envOfC x (defScope st) s.heap.objs.size f cdv)) →
      Takes (cxOf (L2.CX P w) P w K mg base N x (defScope st) f cdv A outer s H E) (fun C d _ H => E C d H) →
      PassesOwn (model P w) (cxOf (L2.CX P w) P w K mg base N x (defScope st) f cdv A outer s H E).A (cxOf (L2.CX P w) P w K mg base N x (defScope st) f cdv A outer s H E).env (cxOf (L2.CX P w) P w K mg base N x (defScope st) f cdv A outer s H E).xe →
      PSSX (cxOf (L2.CX P w) P w K mg base N x (defScope st) f cdv A outer s H E) (fun C d _ H => E C d H) (defBody st) g) : OkF P w K mg base x (k + 1) n fn := by
  subst hf
  obtain ⟨f, fd, F, hm, hb⟩ := T
  exact ⟨f, fd, ps, def_ok F S hn fun cdv A outer s H E hr => hbody f cdv A outer s H E hr (takes_of rfl rfl rfl rfl) (passes_of rfl), hm, F.kp, hb⟩
end
section
variable {X : Cx} {W : WX} {k n : Nat} {x : Str} {p pos : Pos} {e : Expr} {es : List Expr} {fs : Ev → Rs (List Dt)} {fn : List Dt → Rs Dt}
theorem px_callF (F : OkF X.prog X.w X.K X.mg X.base x k n fn) (hr : Room k X.A) (tk : Takes X W)
    (ha : PAX X W (e :: es) fs) (hg : Gl X x := by rfl) (hdb : (x == ("__debug__" : Str)) = false := by decide) (he : starEach (e :: es) X.env = (false, eval e X.env) :: starEach es X.env := by rfl) (hpl : (backTo pos (starEach es X.env)).any (·.1) = false := by rfl) :
    PX X W (.Call (.Name x p) (e :: es) [] pos) (eCall n fn fs) := by
  obtain ⟨f, fd, ps, F1, hm, hk, hb⟩ := F
  exact px_call F1 hr hm hk hb tk ha hg hdb he hpl
/-- x.append(f) -/
theorem psx_appV {i : Nat} {f : Ev → Rs Dt} {p1 p2 : Pos} (h : PX X W e f) (hN : X.N[i]? = some x := by rfl) (hv : Vis X.env.scope x := by first | exact Or.inl rfl | exact Or.inr (Or.inl rfl) | exact Or.inr (Or.inr rfl))
    (hb : ∀ {t : TE} {r : List V → Hp → VK → Prop} {tv : TE}, PE X (.Name x p) tv → PE X e t → PE X (.Call (.Attribute (.Name x p) "append" p1) [e] [] p2) (tBM X.K "list" rAppend tv (tCons t tNil)))
    (hd : (x == ("__debug__" : Str)) = false := by decide) (hcd : (x == ("__classdict__" : Str)) = false := by decide)
    (hs : swapsWith (.Call (.Attribute (.Name x p) "append" p1) [e] [] p2) none pos.line X.env = pure false := by rfl) :
    PSX X W (.Expr (.Call (.Attribute (.Name x p) "append" p1) [e] [] p2) pos) (sApp i f) :=
  psx_app (hb (r := fun _ _ _ => True) (pe_var hN hv hd hcd) h.pe) hs
end
/-- what may be handed on of an error class -/
def HanT (K : PySem.W.Frag) (mg : Str → Option Value) (x : Str) (tbl : List (Str × Bool)) : Prop := ∃ C, mg x = some (.ref C) ∧ ∀ n b, tbl.lookup n = some b → ∀ C', mg n = some (.ref C') → PySem.W.exmOne K (.ref C') (.ref C) = some b
def IsTT (K : PySem.W.Frag) (mg : Str → Option Value) (x : Str) (tbl : List (Str × Bool)) : Prop := ∃ C, mg x = some (.ref C) ∧ IsT K mg (.ref C) tbl
/-- a module's constant -/
def ConI (mg : Str → Option Value) (x : Str) (i : Int) : Prop := ∃ t, mg x = some (.int i t)
theorem px_con {X : Cx} {W : WX} {x : Str} {i : Int} {pos : Pos} (h : ConI X.mg x i) (hg : Gl X x := by rfl) (hd : (x == ("__debug__" : Str)) = false := by decide) : PX X W (.Name x pos) (eC (.int i)) := by
  obtain ⟨t, h⟩ := h
  exact px_globI hg h hd
end PL
set_option maxHeartbeats 1000000
/-! The plain layer: what the top leaves, fact by fact; the law's own end. -/
namespace PL
open PySem L2
open PyProof.Rows hiding St
section
variable {P : Program} {w : World} {K : PySem.W.Frag} {mg : Str → Option Value} {base h : Heap} {x y : Str} {st si : Stmt} {ps fs : List Str}
/-- the name x stands for the object at C -/
def At (K : PySem.W.Frag) (x : Str) (C : Addr) : Prop := PySem.W.nsIn K mainGlobals x = some (some (.ref C))
theorem at_one {C D : Addr} (a : At K x C) (b : At K x D) : C = D := by
  have e := Eq.trans (Eq.symm a) b
  cases e
  rfl
theorem at_mg {C D : Addr} (X : K.In h) (G : h.Ns mainGlobals mg) (a : At K x C) (m : mg x = some (.ref D)) : D = C := by
  have e := (PySem.W.mg_of X G a).symm.trans m
  cases e
  rfl
def FactF (K : PySem.W.Frag) (x : Str) (st : Stmt) : Prop := ∃ (f : Addr) (kV doc pm cd ct : Value) (an : Option Addr), Fun K x x st f (PySem.W.fnOf x x (defArgs st) (defBody st) (defScope st) .none kV doc pm an cd ct) ∧ At K x f
theorem factF_mk {f : Addr} {oc : Value} {od an : Option Addr} {osl : Array (Option Value)} {kV doc pm cd ct : Value} (a : PySem.W.nsIn K mainGlobals x = some (some (.ref f)))
    (l : K.lookup f = some ⟨oc, od, .func (PySem.W.fnOf x x (defArgs st) (defBody st) (defScope st) .none kV doc pm an cd ct), osl⟩) (c : PySem.W.codeIn K cd x = true) (k : PySem.W.keepIn K (.ref f) = true) : FactF K x st :=
  ⟨f, kV, doc, pm, cd, ct, an, fun_mk l c k, a⟩
theorem FactF.funT (F : FactF K x st) (X : K.In h) (G : h.Ns mainGlobals mg)
    (hb : ∀ (kV doc pm : Value) (an : Option Addr) (cdv ct : Value) (us : List Value), us.length = ps.length → bindArgs (PySem.W.fnOf x x (defArgs st) (defBody st) (defScope st) .none kV doc pm an cdv ct) ⟨us, []⟩ = pure (ps.zip us)) : FunT K mg x st ps := by
  obtain ⟨f, kV, doc, pm, cd, ct, an, F, a⟩ := F
  exact ⟨f, _, F, PySem.W.mg_of X G a, F.binds hb⟩
/-! own error classes -/
def clsInit : Stmt → Stmt
  | .ClassDef (body := b) .. => b.getD 0 (.Pass ⟨0, 0, 0, 0⟩)
  | s => s
def FactE (P : Program) (K : PySem.W.Frag) (x : Str) (si : Stmt) (qual : Str) (fs : List Str) : Prop := ∃ (C fI cc cda : Addr) (oc : Value) (od : Option Addr) (osl : Array (Option Value)) (kV doc pm : Value) (an : Option Addr) (ct : Value),
  At K x C ∧ OexC K C ∧ SupC K C C ∧ PySem.W.findIn K (.ref C) "__init__" = some (some (.ref fI)) ∧ PySem.W.typeIn K (.ref fI) = some (.type "function") ∧
  K.lookup fI = some ⟨oc, od, .func (PySem.W.ksFn "__init__" qual (defArgs si) (defBody si) (defScope si) .none kV doc pm an (.ref cda) ct cc), osl⟩ ∧ SupF P K fI cc cda C qual ∧ ∀ n ∈ fs, PySem.W.findIn K (.ref C) n = some none
theorem errT_mk {qual : Str} (F : FactE P K x si qual fs) (X : K.In h) (G : h.Ns mainGlobals mg)
    (hi : ∀ (C fI cc cda : Addr) (oc : Value) (od : Option Addr) (osl : Array (Option Value)) (kV doc pm : Value) (an : Option Addr) (ct : Value), SupF P K fI cc cda C qual →
      K.lookup fI = some ⟨oc, od, .func (PySem.W.ksFn "__init__" qual (defArgs si) (defBody si) (defScope si) .none kV doc pm an (.ref cda) ct cc), osl⟩ →
      FnOk P w K mg base CX0 1 fI (PySem.W.ksFn "__init__" qual (defArgs si) (defBody si) (defScope si) .none kV doc pm an (.ref cda) ct cc) (("self" : Str) :: fs) (spInit K (SupC K C) fs))
    (hb : ∀ (fI cc cda : Addr) (kV doc pm : Value) (an : Option Addr) (ct : Value) (us : List Value), us.length = (("self" : Str) :: fs).length → bindArgs (PySem.W.ksFn "__init__" qual (defArgs si) (defBody si) (defScope si) .none kV doc pm an (.ref cda) ct cc) ⟨us, []⟩ = pure ((("self" : Str) :: fs).zip us)) :
    ErrT P w K mg base x fs := by
  obtain ⟨C, fI, cc, cda, oc, od, osl, kV, doc, pm, an, ct, a, T, S, iC, tI, lk, SF, nf⟩ := F
  exact ⟨C, fI, C, _, _, PySem.W.mg_of X G a, T, S, iC, tI, hi C fI cc cda oc od osl kV doc pm an ct SF lk, .all fun us hl => hb fI cc cda kV doc pm an ct us hl, nf⟩
theorem sup_of {C Wd : Addr} {n : Str} {r : Option Value} {nm q nm' q' : Str} {N N' : Addr} {bs bs' : List Value} {sn sn' : List Str} {sub sub' : List Value} {ab ab' : Bool} {col col' : Option Bool} {dd dd' : Option Addr} {k0 k1 k2 k3 k5 j0 j1 j2 j3 j5 : Option Value}
    (lC : K.lookup C = some (excClassObj nm q C N bs [.ref Wd, .type "ValueError", .type "Exception", .type "BaseException", .type "object"] true sn sub ab col dd k0 k1 k2 k3 k5 "ValueError.__new__"))
    (lW : K.lookup Wd = some (excClassObj nm' q' Wd N' bs' [.type "ValueError", .type "Exception", .type "BaseException", .type "object"] true sn' sub' ab' col' dd' j0 j1 j2 j3 j5 "ValueError.__new__"))
    (f : PySem.W.findIn K (.ref Wd) n = some r) : PySem.W.ks_superIn K C C n = some r := by
  unfold PySem.W.ks_superIn PySem.W.clsIn
  rw [lC]
  have f : (match K.lookup Wd with
    | some ⟨_, _, .cls cd, _⟩ => PySem.W.alongIn K n cd.mro
    | _ => none) = some r := f
  rw [lW] at f
  show PySem.W.alongIn K n ((([.ref C, .ref Wd, .type "ValueError", .type "Exception", .type "BaseException", .type "object"] : List Value).dropWhile (· != .ref C)).drop 1) = _
  have e : ((Value.ref C) != (Value.ref C)) = false := by simp
  rw [List.dropWhile_cons, e]
  exact f
theorem exm_by {C D : Addr} {b : Bool} (h1 : PySem.W.subIn K (.ref D) (.type "BaseException") = some true) (h2 : PySem.W.isClsIn K D = true) (h3 : PySem.W.typeIn K (.ref D) = some (.type "type")) (h4 : PySem.W.subIn K (.ref C) (.ref D) = some b) : PySem.W.exmOne K (.ref C) (.ref D) = some b := by
  have e1 : (PySem.W.subIn K (.ref D) (.type "BaseException") == some true) = true := by rw [h1] <;> rfl
  have e2 : ((PySem.W.clsIn K D).isSome && PySem.W.typeIn K (.ref D) == some (.type "type")) = true := by
    have h2' : (PySem.W.clsIn K D).isSome = true := h2
    rw [h2', h3] <;> rfl
  unfold PySem.W.exmOne PySem.W.kitCls
  rw [if_pos e1]
  show (if ((PySem.W.clsIn K D).isSome && PySem.W.typeIn K (.ref D) == some (.type "type")) = true then PySem.W.subIn K (.ref C) (.ref D) else none) = _
  rw [if_pos e2]
  exact h4
theorem kit_by {C D : Addr} {b : Bool} (ne : (Value.ref C == Value.ref D) = false) (h2 : PySem.W.isClsIn K D = true) (h3 : PySem.W.typeIn K (.ref D) = some (.type "type")) (h4 : PySem.W.subIn K (.ref C) (.ref D) = some b) : PySem.W.kitOne K (.ref C) (.ref D) = some b := by
  have e2 : ((PySem.W.clsIn K D).isSome && PySem.W.typeIn K (.ref D) == some (.type "type")) = true := by
    have h2' : (PySem.W.clsIn K D).isSome = true := h2
    rw [h2', h3] <;> rfl
  unfold PySem.W.kitOne PySem.W.kitCls
  rw [ne, if_neg Bool.false_ne_true]
  show (if ((PySem.W.clsIn K D).isSome && PySem.W.typeIn K (.ref D) == some (.type "type")) = true then PySem.W.subIn K (.ref C) (.ref D) else none) = _
  rw [if_pos e2]
  exact h4
theorem kit_byT {C : Addr} {n : String} {b : Bool} (m : PySem.W.kitMeta n = true) (h4 : PySem.W.subIn K (.ref C) (.type n) = some b) : PySem.W.kitOne K (.ref C) (.type n) = some b := by
  have ne : (Value.ref C == Value.type n) = false := by
    rw [beq_eq_false_iff_ne]
    intro z
    cases z
  unfold PySem.W.kitOne PySem.W.kitCls
  rw [ne, if_neg Bool.false_ne_true]
  show (if PySem.W.kitMeta n = true then PySem.W.subIn K (.ref C) (.type n) else none) = _
  rw [if_pos m]
  exact h4
theorem factE_mk {C fI cc cda : Addr} {oc : Value} {od : Option Addr} {osl : Array (Option Value)} {kV doc pm : Value} {an : Option Addr} {ct : Value} {qual f : Str}
    {nm q : Str} {N : Addr} {bs : List Value} {sn : List Str} {sub : List Value} {ab : Bool} {col : Option Bool} {dd : Option Addr} {k0 k1 k2 k3 k5 : Option Value} {Wd : Addr} {nm' q' : Str} {N' : Addr} {bs' : List Value} {sn' : List Str} {sub' : List Value} {ab' : Bool} {col' : Option Bool} {dd' : Option Addr} {j0 j1 j2 j3 j5 : Option Value}
    {ccl : Value} {cdd : Option Addr} {vs : Array Value} {ccs : Array (Option Value)} {file : Str} {tf : Tok} {cl : Value} {cld : Option Addr} {csl : Array (Option Value)}
    (a : PySem.W.nsIn K mainGlobals x = some (some (.ref C)))
    (lC : K.lookup C = some (excClassObj nm q C N bs [.ref Wd, .type "ValueError", .type "Exception", .type "BaseException", .type "object"] true sn sub ab col dd k0 k1 k2 k3 k5 "ValueError.__new__")) (hW : PySem.HandSPX.refsVE [.ref Wd, .type "ValueError", .type "Exception", .type "BaseException", .type "object"] = true)
    (sa : PySem.W.findIn K (.ref C) "__setattr__" = some (some (.builtin "object.__setattr__"))) (exC : PySem.W.subIn K (.ref C) (.type "BaseException") = some true) (tyC : PySem.W.typeIn K (.ref C) = some (.type "type")) (kC : PySem.W.keepIn K (.ref C) = true)
    (mr : PySem.W.mroIn K C (.ref C) = some true) (lW : K.lookup Wd = some (excClassObj nm' q' Wd N' bs' [.type "ValueError", .type "Exception", .type "BaseException", .type "object"] true sn' sub' ab' col' dd' j0 j1 j2 j3 j5 "ValueError.__new__")) (fW : PySem.W.findIn K (.ref Wd) "__init__" = some (some (.builtin "ValueError.__init__"))) (ve : PySem.W.subIn K (.ref C) (.type "ValueError") = some true)
    (iC : PySem.W.findIn K (.ref C) "__init__" = some (some (.ref fI))) (tI : PySem.W.typeIn K (.ref fI) = some (.type "function"))
    (lI : K.lookup fI = some ⟨oc, od, .func (PySem.W.ksFn "__init__" qual (defArgs si) (defBody si) (defScope si) .none kV doc pm an (.ref cda) ct cc), osl⟩)
    (lcd : K.lookup cda = some ⟨ccl, cdd, .fields vs, ccs⟩) (hvs : vs[2]? = some (.str file tf)) (hfi : ((P.main.file : Str) == file) = true) (cd : PySem.W.codeIn K (.ref cda) qual = true)
    (lcc : K.lookup cc = some ⟨cl, cld, .cell (some (.ref C)), csl⟩) (cls : PySem.W.isClsIn K C = true) (top : (P.main.scope.names.lookup ("super" : Str)).isSome = false) (noTP : PySem.W.nsIn K cStatics "thirdparty.any" = some none)
    (nf : PySem.W.findIn K (.ref C) f = some none) : FactE P K x si qual [f] :=
  ⟨C, fI, cc, cda, oc, od, osl, kV, doc, pm, an, ct, a, ⟨⟨nm, q, N, bs, _, sn, sub, ab, col, dd, k0, k1, k2, k3, k5, lC, hW⟩, sa, exC, tyC, kC⟩, ⟨mr, sup_of lC lW fW, ve⟩, iC, tI, lI, ⟨⟨ccl, cdd, vs, ccs, file, tf, lcd, hvs, hfi⟩, cd, ⟨cl, cld, csl, lcc⟩, cls, top, noTP⟩,
    fun n hn => by
      cases List.mem_singleton.mp hn
      exact nf⟩
/-- an error class whose instances are looked at -/
def FactC (K : PySem.W.Frag) (x : Str) (fs : List Str) : Prop := ∃ C, At K x C ∧ XfC K C ∧ ExcC K C ∧ ∀ n ∈ fs, PySem.W.findIn K (.ref C) n = some none
theorem factC_mk {C : Addr} {f : Str} (a : PySem.W.nsIn K mainGlobals x = some (some (.ref C))) (ga : PySem.W.findIn K (.ref C) "__getattribute__" = some (some (.builtin "BaseException.__getattribute__"))) (gg : PySem.W.findIn K (.ref C) "__getattr__" = some none)
    (ex : PySem.W.subIn K (.ref C) (.type "BaseException") = some true) (hd : PySem.W.hasDictIn K C = true) (ha : PySem.W.findIn K (.ref C) "__class__" = some (some (.builtin "object.__class__"))) (hn : PySem.W.specialIn K (.builtin "object.__class__") "__get__" = some (some (.builtin "getset_descriptor.__get__")))
    (ht : PySem.W.takesIn K (.builtin "object.__class__") = some true) (hm : PySem.W.mroIn K C (.type "object") = some true) (nf : PySem.W.findIn K (.ref C) f = some none) : FactC K x [f] :=
  ⟨C, a, ⟨ga, gg, ex, hd⟩, ⟨ga, gg, ex, hd, ha, hn, ht, hm⟩, fun n hn => by
    cases List.mem_singleton.mp hn
    exact nf⟩
theorem fldT_one {f : Str} (F : FactC K x fs) (hf : f ∈ fs) (X : K.In h) (G : h.Ns mainGlobals mg) : FldT K mg [x] f := fun n hn D m => by
  cases List.mem_singleton.mp hn
  obtain ⟨C, a, x1, _, nf⟩ := F
  cases at_mg X G a m
  exact ⟨x1, nf f hf⟩
def FactP (K : PySem.W.Frag) (x y : Str) (b : Bool) : Prop := ∃ C D, At K x C ∧ At K y D ∧ PySem.W.exmOne K (.ref C) (.ref D) = some b
theorem factP_mk {C D : Addr} {b : Bool} (a : PySem.W.nsIn K mainGlobals x = some (some (.ref C))) (c : PySem.W.nsIn K mainGlobals y = some (some (.ref D))) (h1 : PySem.W.subIn K (.ref D) (.type "BaseException") = some true) (h2 : PySem.W.isClsIn K D = true) (h3 : PySem.W.typeIn K (.ref D) = some (.type "type")) (e : PySem.W.subIn K (.ref C) (.ref D) = some b) : FactP K x y b := ⟨C, D, a, c, exm_by h1 h2 h3 e⟩
def TblP (K : PySem.W.Frag) (y : Str) : List (Str × Bool) → Prop
  | [] => True
  | (x, b) :: r => FactP K x y b ∧ TblP K y r
theorem tblP_of (X : K.In h) (G : h.Ns mainGlobals mg) {D : Addr} (aD : At K y D) : ∀ {tbl : List (Str × Bool)}, TblP K y tbl → ∀ n b, tbl.lookup n = some b → ∀ C', mg n = some (.ref C') → PySem.W.exmOne K (.ref C') (.ref D) = some b
  | [], _, n, b, e, _, _ => by cases e
  | (x, b0) :: r, ⟨F, t⟩, n, b, e, C', m => by
    rw [List.lookup_cons] at e
    by_cases hx : n == x
    · rw [hx] at e
      cases e
      obtain rfl := eq_of_beq hx
      obtain ⟨C, D', a, d, q⟩ := F
      cases at_mg X G a m
      cases at_one aD d
      exact q
    · have hx : (n == x) = false := by simpa using hx
      rw [hx] at e
      exact tblP_of X G aD t n b e C' m
theorem hanT_mk {b : Bool} {tbl : List (Str × Bool)} (X : K.In h) (G : h.Ns mainGlobals mg) (t : TblP K y ((x, b) :: tbl)) : HanT K mg y ((x, b) :: tbl) := by
  obtain ⟨C, D, a, d, q⟩ := t.1
  exact ⟨D, PySem.W.mg_of X G d, tblP_of X G d t⟩
def FactK (K : PySem.W.Frag) (x y : Str) (b : Bool) : Prop := ∃ C D, At K x C ∧ At K y D ∧ PySem.W.kitOne K (.ref C) (.ref D) = some b
theorem factK_mk {C D : Addr} {b : Bool} (a : PySem.W.nsIn K mainGlobals x = some (some (.ref C))) (c : PySem.W.nsIn K mainGlobals y = some (some (.ref D))) (ne : (Value.ref C == Value.ref D) = false) (h2 : PySem.W.isClsIn K D = true) (h3 : PySem.W.typeIn K (.ref D) = some (.type "type")) (e : PySem.W.subIn K (.ref C) (.ref D) = some b) : FactK K x y b := ⟨C, D, a, c, kit_by ne h2 h3 e⟩
def FactB (K : PySem.W.Frag) (x : Str) (n : String) (b : Bool) : Prop := ∃ C, At K x C ∧ PySem.W.kitOne K (.ref C) (.type n) = some b
theorem factB_mk {C : Addr} {n : String} {b : Bool} (a : PySem.W.nsIn K mainGlobals x = some (some (.ref C))) (m : PySem.W.kitMeta n = true) (e : PySem.W.subIn K (.ref C) (.type n) = some b) : FactB K x n b := ⟨C, a, kit_byT m e⟩
def TblK (K : PySem.W.Frag) (y : Str) : List (Str × Bool) → Prop
  | [] => True
  | (x, b) :: r => ((∃ fs, FactC K x fs) ∧ FactK K x y b) ∧ TblK K y r
def TblB (K : PySem.W.Frag) (c : String) : List (Str × Bool) → Prop
  | [] => True
  | (x, b) :: r => ((∃ fs, FactC K x fs) ∧ FactB K x c b) ∧ TblB K c r
theorem tblK_of (X : K.In h) (G : h.Ns mainGlobals mg) {D : Addr} (aD : At K y D) : ∀ {tbl : List (Str × Bool)}, TblK K y tbl → IsT K mg (.ref D) tbl
  | [], _, n, b, e, _, _ => by cases e
  | (x, b0) :: r, ⟨⟨⟨fs, FC⟩, F⟩, t⟩, n, b, e, C', m => by
    rw [List.lookup_cons] at e
    by_cases hx : n == x
    · rw [hx] at e
      cases e
      obtain rfl := eq_of_beq hx
      obtain ⟨C, D', a, d, q⟩ := F
      obtain ⟨C2, a2, _, xc, _⟩ := FC
      cases at_mg X G a m
      cases at_one aD d
      cases at_one a a2
      exact ⟨xc, q⟩
    · have hx : (n == x) = false := by simpa using hx
      rw [hx] at e
      exact tblK_of X G aD t n b e C' m
theorem tblB_of {c : String} (X : K.In h) (G : h.Ns mainGlobals mg) : ∀ {tbl : List (Str × Bool)}, TblB K c tbl → IsT K mg (.type c) tbl
  | [], _, n, b, e, _, _ => by cases e
  | (x, b0) :: r, ⟨⟨⟨fs, FC⟩, F⟩, t⟩, n, b, e, C', m => by
    rw [List.lookup_cons] at e
    by_cases hx : n == x
    · rw [hx] at e
      cases e
      obtain rfl := eq_of_beq hx
      obtain ⟨C, a, q⟩ := F
      obtain ⟨C2, a2, _, xc, _⟩ := FC
      cases at_mg X G a m
      cases at_one a a2
      exact ⟨xc, q⟩
    · have hx : (n == x) = false := by simpa using hx
      rw [hx] at e
      exact tblB_of X G t n b e C' m
theorem isTT_mk {b : Bool} {tbl : List (Str × Bool)} (X : K.In h) (G : h.Ns mainGlobals mg) (t : TblK K y ((x, b) :: tbl)) : IsTT K mg y ((x, b) :: tbl) := by
  obtain ⟨C, D, a, d, q⟩ := t.1.2
  exact ⟨D, PySem.W.mg_of X G d, tblK_of X G d t⟩
theorem conI_mk {i : Int} {t : Tok} (X : K.In h) (G : h.Ns mainGlobals mg) (a : PySem.W.nsIn K mainGlobals x = some (some (.int i t))) : ConI mg x i := ⟨t, PySem.W.mg_of X G a⟩
def FactI (K : PySem.W.Frag) (x : Str) (i : Int) : Prop := ∃ t, PySem.W.nsIn K mainGlobals x = some (some (.int i t))
theorem factI_mk {i : Int} {t : Tok} (a : PySem.W.nsIn K mainGlobals x = some (some (.int i t))) : FactI K x i := ⟨t, a⟩
theorem FactI.con {i : Int} (F : FactI K x i) (X : K.In h) (G : h.Ns mainGlobals mg) : ConI mg x i := by
  obtain ⟨t, a⟩ := F
  exact conI_mk X G a
/-! the law's own end -/
def spLaw (K : PySem.W.Frag) : Sp := fun vs H Q _ => ∃ (a : Addr) (ns : List Int), vs = [.ref a] ∧ ns.length ≤ 63 ∧ SqL K H a (ns.map V.int) ∧ ∀ H', Q (.bl true) H'
theorem law_sp {fn : List Dt → Rs Dt} (hl : ∀ ns : List Int, ns.length ≤ 63 → fn [.scr ns] = .ok (.bl true)) (vs : List V) (H : Hp) (Q : VK) (E : XK) (q : spLaw K vs H Q E) : spF K mg 1 fn vs H Q E := by
  obtain ⟨a, ns, rfl, hn, hS, hQ⟩ := q
  refine ⟨H, [.scr ns], .refl _, .cons (.scr hS) .nil, rfl, ?_⟩
  rw [hl ns hn]
  intro v G' H' g r
  cases r
  exact hQ H'
end
end PL
/-! The plain layer: plain lemmas to reckon with. -/
namespace PL
open PySem L2
section
variable {a b c : Ev → Rs Dt} {E : Ev} {s1 s2 : Ev → So} {t u : Ev → Rs Bool} {as : Ev → Rs (List Dt)} {g : Dt → Dt → Option Dt} {g1 : Dt → Option Dt} {gl : List Dt → Option Dt} {go : List Dt → Option (List Dt)} {i j n : Nat} {d e : Dt} {x y : Int}
@[simp] theorem m_var : eVar i E = match E[i]? with | some (.val d) => .ok d | _ => .bad := (rfl)
@[simp] theorem m_c : eC d E = .ok d := (rfl)
@[simp] theorem m_op : eOp g a b E = (a E).bind fun x => (b E).bind fun y => Rs.of (g x y) := (rfl)
@[simp] theorem m_un : eUn g1 a E = (a E).bind fun x => Rs.of (g1 x) := (rfl)
@[simp] theorem m_cons : eCons a as E = (a E).bind fun x => (as E).bind fun xs => .ok (x :: xs) := (rfl)
@[simp] theorem m_nil : eNil E = .ok [] := (rfl)
@[simp] theorem m_cb : eCB gl as E = (as E).bind fun xs => Rs.of (gl xs) := (rfl)
@[simp] theorem m_ocb : oCB go as E = (as E).bind fun xs => Rs.of (go xs) := (rfl)
def tBl : Dt → Rs Bool
  | .bl b => .ok b
  | _ => .bad
@[simp] theorem tBl_bl (k : Bool) : tBl (.bl k) = .ok k := (rfl)
@[simp] theorem m_test : bTest a E = (a E).bind tBl := (rfl)
@[simp] theorem m_bool : eBool t E = (t E).bind fun b => .ok (.bl b) := (rfl)
@[simp] theorem m_bAnd : bAnd t u E = (t E).bind fun x => if x = true then u E else .ok false := (rfl)
@[simp] theorem m_bOr : bOr t u E = (t E).bind fun x => if x = true then .ok true else u E := (rfl)
@[simp] theorem m_bNot : bNot t E = (t E).bind fun x => .ok (!x) := (rfl)
@[simp] theorem m_if : eIf t a b E = (t E).bind fun x => if x = true then a E else b E := (rfl)
def kAnd (r : Rs Dt) : Dt → Rs Dt
  | .bl true => r
  | .bl false => .ok (.bl false)
  | _ => .bad
def kOr (r : Rs Dt) : Dt → Rs Dt
  | .bl true => .ok (.bl true)
  | .bl false => r
  | _ => .bad
@[simp] theorem kAnd_bl (r : Rs Dt) (k : Bool) : kAnd r (.bl k) = if k = true then r else .ok (.bl false) := by cases k <;> rfl
@[simp] theorem kOr_bl (r : Rs Dt) (k : Bool) : kOr r (.bl k) = if k = true then .ok (.bl true) else r := by cases k <;> rfl
@[simp] theorem m_and : eAnd a b E = (a E).bind (kAnd (b E)) := (rfl)
@[simp] theorem m_or : eOr a b E = (a E).bind (kOr (b E)) := (rfl)
def kNot : Dt → Rs Dt
  | .bl b => .ok (.bl (!b))
  | _ => .bad
@[simp] theorem kNot_bl (k : Bool) : kNot (.bl k) = .ok (.bl (!k)) := (rfl)
@[simp] theorem m_not : eNot a E = (a E).bind kNot := (rfl)
@[simp] theorem m_one {g} {d : Dt} : cOne g a d E = (a E).bind fun y => (Rs.of (g d y)).bind tBl := (rfl)
def kCh (r : Rs Bool) : Dt → Rs Bool
  | .bl true => r
  | .bl false => .ok false
  | _ => .bad
@[simp] theorem kCh_bl (r : Rs Bool) (k : Bool) : kCh r (.bl k) = if k = true then r else .ok false := by cases k <;> rfl
@[simp] theorem m_ccons {g} {r : Dt → Ev → Rs Bool} {d : Dt} : cCons g a r d E = (a E).bind fun y => (Rs.of (g d y)).bind (kCh (r y E)) := (rfl)
@[simp] theorem m_ch {r : Dt → Ev → Rs Bool} : bCh a r E = (a E).bind fun x => r x E := (rfl)
@[simp] theorem m_tup : eTup as E = (as E).bind fun xs => if xs.length ≤ 1000 then .ok (.tup xs) else .bad := (rfl)
@[simp] theorem m_lst : oLst as E = (as E).bind fun xs => if xs.length ≤ 1000 then .ok xs else .bad := (rfl)
@[simp] theorem m_L {o : Ev → Rs (List Dt)} : eL o E = (o E).bind fun l => .ok (.lst l) := (rfl)
@[simp] theorem m_call {f : List Dt → Rs Dt} : eCall n f as E = (as E).bind fun ds => if ds.length = n then f ds else .bad := (rfl)
@[simp] theorem m_pNone : pNone E = .ok none := (rfl)
def kInt : Dt → Rs (Option Int)
  | .int i => .ok (some i)
  | _ => .bad
@[simp] theorem kInt_int : kInt (.int x) = .ok (some x) := (rfl)
@[simp] theorem m_pSome : pSome a E = (a E).bind kInt := (rfl)
def kSl (lo hi : Option Int) : Dt → Rs (List Dt)
  | .lst xs => .ok (cutD xs lo hi)
  | _ => .bad
@[simp] theorem kSl_lst {lo hi : Option Int} {l : List Dt} : kSl lo hi (.lst l) = .ok (cutD l lo hi) := (rfl)
@[simp] theorem m_oSl {l h : Ev → Rs (Option Int)} : oSl a l h E = (a E).bind fun x => (l E).bind fun lo => (h E).bind fun hi => kSl lo hi x := (rfl)
@[simp] theorem m_eSl {l h : Ev → Rs (Option Int)} : eSl a l h E = (a E).bind fun x => (l E).bind fun lo => (h E).bind fun hi => Rs.of (gSl x lo hi) := (rfl)
@[simp] theorem gSl_lst {lo hi : Option Int} {l : List Dt} : gSl (.lst l) lo hi = some (.lst (cutD l lo hi)) := (rfl)
def kRev : Dt → Rs (List Dt)
  | .lst xs => .ok xs.reverse
  | _ => .bad
@[simp] theorem kRev_lst {l : List Dt} : kRev (.lst l) = .ok l.reverse := (rfl)
@[simp] theorem m_oRev : oRev a E = (a E).bind kRev := (rfl)
def kAdd : Dt → Dt → Rs (List Dt)
  | .lst l, .lst m => if l.length + m.length ≤ 1000000 then .ok (l ++ m) else .bad
  | _, _ => .bad
@[simp] theorem kAdd_lst {l m : List Dt} : kAdd (.lst l) (.lst m) = if l.length + m.length ≤ 1000000 then .ok (l ++ m) else .bad := (rfl)
@[simp] theorem m_oAdd : oAdd a b E = (a E).bind fun x => (b E).bind (kAdd x) := (rfl)
def kL : Dt → Rs (List Dt)
  | .lst l => .ok l
  | _ => .bad
@[simp] theorem kL_lst {l : List Dt} : kL (.lst l) = .ok l := (rfl)
@[simp] theorem m_iL : iL a E = (a E).bind kL := (rfl)
def kR1 : List Dt → Rs (List Dt)
  | [.int j] => if okR j = true then .ok (rng 0 j.toNat) else .bad
  | _ => .bad
theorem kR1_int : kR1 [.int x] = if okR x = true then .ok (rng 0 x.toNat) else .bad := (rfl)
@[simp] theorem m_iR1 : iR1 as E = (as E).bind kR1 := (rfl)
def kR2 : List Dt → Rs (List Dt)
  | [.int i, .int j] => if okR i = true ∧ okR j = true then .ok (rng i (j - i).toNat) else .bad
  | _ => .bad
theorem kR2_int : kR2 [.int x, .int y] = if okR x = true ∧ okR y = true then .ok (rng x (y - x).toNat) else .bad := (rfl)
@[simp] theorem m_iR2 : iR2 as E = (as E).bind kR2 := (rfl)
/-! operations -/
@[simp] theorem g_lt : gLt (.int x) (.int y) = some (.bl (decide (x < y))) := (rfl)
@[simp] theorem g_le : gLe (.int x) (.int y) = some (.bl (decide (x ≤ y))) := (rfl)
@[simp] theorem g_gt : gGt (.int x) (.int y) = some (.bl (decide (y < x))) := (rfl)
@[simp] theorem g_ge : gGe (.int x) (.int y) = some (.bl (decide (y ≤ x))) := (rfl)
@[simp] theorem g_add : gAdd (.int x) (.int y) = some (.int (x + y)) := (rfl)
@[simp] theorem g_addL {l m : List Dt} : gAdd (.lst l) (.lst m) = if l.length + m.length ≤ 1000000 then some (.lst (l ++ m)) else none := (rfl)
@[simp] theorem g_sub : gSub (.int x) (.int y) = some (.int (x - y)) := (rfl)
@[simp] theorem g_mul : gMul (.int x) (.int y) = if cMul x y = true then some (.int (x * y)) else none := (rfl)
@[simp] theorem g_div : gDiv (.int x) (.int y) = if cDiv x y = true then some (.int (x / y)) else none := (rfl)
@[simp] theorem g_mod : gMod (.int x) (.int y) = if cMod x y = true then some (.int (x % y)) else none := (rfl)
@[simp] theorem g_pow : gPow (.int x) (.int y) = if cPow x y = true then some (.int (x ^ y.toNat)) else none := (rfl)
@[simp] theorem g_neg : gNeg (.int x) = some (.int (-x)) := (rfl)
@[simp] theorem g_len {l : List Dt} : gLen [.lst l] = some (.int l.length) := (rfl)
@[simp] theorem g_lenS {l : List Int} : gLen [.scr l] = some (.int l.length) := (rfl)
@[simp] theorem g_lenT {l : List Dt} : gLen [.tup l] = some (.int l.length) := (rfl)
@[simp] theorem g_int : gInt [.int x] = some (.int x) := (rfl)
@[simp] theorem g_ixL {l : List Dt} : gIx (.lst l) (.int x) = atI l x := (rfl)
@[simp] theorem g_ixT {l : List Dt} : gIx (.tup l) (.int x) = atI l x := (rfl)
@[simp] theorem g_ixS {l : List Int} : gIx (.scr l) (.int x) = (atI l x).map Dt.int := (rfl)
@[simp] theorem g_list {l : List Dt} : gList [.lst l] = some l := (rfl)
@[simp] theorem g_is {d : Dt} : gIs d .non = some (.bl (isNon d)) := (rfl)
@[simp] theorem g_isN {d : Dt} : gIsNot d .non = some (.bl (!isNon d)) := (rfl)
@[simp] theorem isNon_non : isNon .non = true := (rfl)
@[simp] theorem isNon_int : isNon (.int x) = false := (rfl)
@[simp] theorem g_isi_int : gIsi [.int x, .ty "int"] = some (.bl true) := by
  show (kitB "int" "int").map Dt.bl = _
  rw [show kitB "int" "int" = some true by decide +kernel]
  rfl
end
end PL
namespace PL
open PySem L2
section
variable {a b c : Ev → Rs Dt} {E : Ev} {s1 s2 : Ev → So} {t u : Ev → Rs Bool} {as : Ev → Rs (List Dt)} {i j n : Nat} {d e : Dt} {x y : Int} {o : Ev → Rs (List Dt)}
@[simp] theorem m_nop : sNop E = .nx E := (rfl)
@[simp] theorem m_bad : sBad E = .bad := (rfl)
@[simp] theorem m_ret : sRet a E = (a E).so E .rt := (rfl)
@[simp] theorem m_retN : sRetN E = .rt .non := (rfl)
@[simp] theorem m_brk : sBrk E = .bk E := (rfl)
@[simp] theorem m_cnt : sCnt E = .ct E := (rfl)
@[simp] theorem m_set : sSet i a E = (a E).so E fun d => .nx (E.set i (.val d)) := (rfl)
@[simp] theorem m_own : sOwn i o E = (o E).so E fun l => .nx (E.set i (.own l)) := (rfl)
@[simp] theorem m_drop : sDrop a E = (a E).so E fun _ => .nx E := (rfl)
@[simp] theorem m_sif : sIf t s1 s2 E = (t E).so E fun k => if k = true then s1 E else s2 E := (rfl)
def kTgt (t : Tg) (E : Ev) (d : Dt) : So := match t.go d E with
  | some E1 => .nx E1
  | none => .bad
@[simp] theorem kTgt_eq {t : Tg} : kTgt t E d = match t.go d E with | some E1 => .nx E1 | none => .bad := (rfl)
@[simp] theorem m_tgt {t : Tg} : sTgt t a E = (a E).so E (kTgt t E) := (rfl)
@[simp] theorem go_one : (Tg.one i).go d E = some (E.set i (.val d)) := (rfl)
@[simp] theorem go_tup {is : List Nat} {ds : List Dt} : (Tg.tup is).go (.tup ds) E = if ds.length = is.length then some (setAll is ds E) else none := (rfl)
@[simp] theorem sa_cons {is : List Nat} {ds : List Dt} : setAll (i :: is) (d :: ds) E = setAll is ds (E.set i (.val d)) := (rfl)
@[simp] theorem sa_nil {ds : List Dt} : setAll [] ds E = E := by cases ds <;> rfl
@[simp] theorem m_for {fi : Ev → Rs (List Dt)} {t : Tg} {g : Ev → So} : sFor fi t g E = (fi E).so E fun ds => forL t g ds E := (rfl)
/-- then -/
def So.then (r : So) (k : Ev → So) : So := match r with
  | .nx E1 => k E1
  | .rt d => .rt d
  | .bk E1 => .bk E1
  | .ct E1 => .ct E1
  | .er x E1 => .er x E1
  | .bad => .bad
@[simp] theorem then_nx (k : Ev → So) : (So.nx E).then k = k E := (rfl)
@[simp] theorem then_rt (k : Ev → So) : (So.rt d).then k = .rt d := (rfl)
@[simp] theorem then_bk (k : Ev → So) : (So.bk E).then k = .bk E := (rfl)
@[simp] theorem then_ct (k : Ev → So) : (So.ct E).then k = .ct E := (rfl)
@[simp] theorem then_er {x : Ex} (k : Ev → So) : (So.er x E).then k = .er x E := (rfl)
@[simp] theorem then_bad (k : Ev → So) : So.bad.then k = .bad := (rfl)
@[simp] theorem m_seq : sSeq s1 s2 E = (s1 E).then s2 := (rfl)
theorem ite_then {c : Prop} [Decidable c] (p q : So) (k : Ev → So) : (if c then p else q).then k = if c then p.then k else q.then k := by
  split <;> rfl
theorem ite_so {α : Type} {c : Prop} [Decidable c] (p q : Rs α) (k : α → So) : (if c then p else q).so E k = if c then p.so E k else q.so E k := by
  split <;> rfl
theorem ite_bind {α β : Type} {c : Prop} [Decidable c] (p q : Rs α) (k : α → Rs β) : (if c then p else q).bind k = if c then p.bind k else q.bind k := by
  split <;> rfl
def So.res (r : So) : Rs Dt := match r with
  | .rt d => .ok d
  | .nx _ => .ok .non
  | .er x _ => .err x
  | _ => .bad
@[simp] theorem res_rt : (So.rt d).res = .ok d := (rfl)
@[simp] theorem res_nx : (So.nx E).res = .ok .non := (rfl)
@[simp] theorem res_er {x : Ex} : (So.er x E).res = .err x := (rfl)
theorem ite_res {c : Prop} [Decidable c] (p q : So) : (if c then p else q).res = if c then p.res else q.res := by
  split <;> rfl
theorem m_run {g : Ev → So} {ds : List Dt} : runF n g ds = (g (startE n ds)).res := (rfl)
@[simp] theorem ix2_0 : atI [d, e] 0 = some d := (rfl)
@[simp] theorem ix2_1 : atI [d, e] 1 = some e := (rfl)
theorem ixN_nat {n k : Nat} : ixN n (k : Int) = if k < n then some k else none := by
  unfold ixN
  split <;> split <;> first | rfl | omega | (simp; omega) | skip
end
end PL
/-! The plain layer: loops and comprehensions over mapped lists. -/
namespace PL
open PySem L2
/-- how a turn or a loop ends: it goes on within C, or it stops with a result -/
def Ends1 (C : Ev → Prop) (o : Option (Rs Dt)) (r : So) : Prop := match o with
  | none => ∃ E2, C E2 ∧ (r = .nx E2 ∨ r = .ct E2)
  | some (.ok d) => r = .rt d
  | some (.err x) => ∃ E2, r = .er x E2
  | some .bad => False
def EndsN (C : Ev → Prop) (o : Option (Rs Dt)) (r : So) : Prop := match o with
  | none => ∃ E2, C E2 ∧ r = .nx E2
  | some (.ok d) => r = .rt d
  | some (.err x) => ∃ E2, r = .er x E2
  | some .bad => False
theorem forL_find {α : Type} {t : Tg} {g : Ev → So} (enc : α → Dt) (step : α → Option (Rs Dt)) (C : Ev → Prop) :
    ∀ (as : List α) (E : Ev), C E → (∀ a ∈ as, ∀ E, C E → ∃ E1, t.go (enc a) E = some E1 ∧ Ends1 C (step a) (g E1)) → EndsN C (as.findSome? step) (forL t g (as.map enc) E)
  | [], E, hE, _ => ⟨E, hE, rfl⟩
  | a :: as, E, hE, h => by
    obtain ⟨E1, e1, h1⟩ := h a List.mem_cons_self E hE
    show EndsN C _ (match t.go (enc a) E with | none => .bad | some E1 => turn (g E1) (forL t g (as.map enc)))
    rw [e1, List.findSome?_cons]
    show EndsN C _ (turn (g E1) (forL t g (as.map enc)))
    cases hs : step a with
    | none =>
      rw [hs] at h1
      obtain ⟨E2, hC, h2⟩ := h1
      have ih := forL_find enc step C as E2 hC fun b hb => h b (List.mem_cons_of_mem _ hb)
      rcases h2 with e2 | e2 <;> rw [e2] <;> exact ih
    | some r =>
      rw [hs] at h1
      cases r with
      | ok d =>
        have h1 : g E1 = .rt d := h1
        rw [h1]
        rfl
      | err x =>
        obtain ⟨E2, e2⟩ := h1
        rw [e2]
        exact ⟨E2, rfl⟩
      | bad => exact h1.elim
theorem forL_fold {α β : Type} {t : Tg} {g : Ev → So} (enc : α → Dt) (f : β → α → β) (C : β → Ev → Prop) :
    ∀ (as : List α) (b : β) (E : Ev), C b E → (∀ a ∈ as, ∀ b E, C b E → ∃ E1 E2, t.go (enc a) E = some E1 ∧ (g E1 = .nx E2 ∨ g E1 = .ct E2) ∧ C (f b a) E2) → ∃ E2, C (as.foldl f b) E2 ∧ forL t g (as.map enc) E = .nx E2
  | [], b, E, hE, _ => ⟨E, hE, rfl⟩
  | a :: as, b, E, hE, h => by
    obtain ⟨E1, E2, e1, h1, h2⟩ := h a List.mem_cons_self b E hE
    obtain ⟨E3, h3, e3⟩ := forL_fold enc f C as (f b a) E2 h2 fun c hc => h c (List.mem_cons_of_mem _ hc)
    refine ⟨E3, h3, ?_⟩
    show (match t.go (enc a) E with | none => So.bad | some E1 => turn (g E1) (forL t g (as.map enc))) = _
    rw [e1]
    show turn (g E1) (forL t g (as.map enc)) = _
    rcases h1 with e | e <;> rw [e] <;> exact e3
theorem lcR_map {α : Type} {t : Tg} {ft : Ev → Rs Bool} {fe : Ev → Rs Dt} {E : Ev} (enc : α → Dt) (p : α → Bool) (v : α → Dt) :
    ∀ (as : List α), (∀ a ∈ as, ∃ E1, t.go (enc a) E = some E1 ∧ ft E1 = .ok (p a) ∧ (p a = true → fe E1 = .ok (v a))) → lcR t ft fe E (as.map enc) = .ok ((as.filter p).map v)
  | [], _ => rfl
  | a :: as, h => by
    obtain ⟨E1, e1, e2, e3⟩ := h a List.mem_cons_self
    have ih := lcR_map enc p v as fun b hb => h b (List.mem_cons_of_mem _ hb)
    show ((Rs.of (t.go (enc a) E)).bind fun E1 => (ft E1).bind fun b => if b = true then (fe E1).bind fun y => (lcR t ft fe E (as.map enc)).bind fun r => .ok (y :: r) else lcR t ft fe E (as.map enc)) = _
    rw [e1]
    show ((ft E1).bind fun b => if b = true then (fe E1).bind fun y => (lcR t ft fe E (as.map enc)).bind fun r => .ok (y :: r) else lcR t ft fe E (as.map enc)) = _
    rw [e2]
    show (if p a = true then (fe E1).bind fun y => (lcR t ft fe E (as.map enc)).bind fun r => .ok (y :: r) else lcR t ft fe E (as.map enc)) = _
    rw [ih, List.filter_cons]
    by_cases hp : p a = true
    · rw [if_pos hp, if_pos hp, e3 hp]
      rfl
    · rw [if_neg hp, if_neg hp]
theorem filter_true {α : Type} (as : List α) : as.filter (fun _ => true) = as := List.filter_eq_self.mpr fun _ _ => rfl
theorem lcR_all {α : Type} {t : Tg} {fe : Ev → Rs Dt} {E : Ev} (enc : α → Dt) (v : α → Dt) (as : List α) (h : ∀ a ∈ as, ∃ E1, t.go (enc a) E = some E1 ∧ fe E1 = .ok (v a)) : lcR t bYes fe E (as.map enc) = .ok (as.map v) := by
  have e := lcR_map (ft := bYes) enc (fun _ => true) v as fun a ha => by
    obtain ⟨E1, e1, e2⟩ := h a ha
    exact ⟨E1, e1, rfl, fun _ => e2⟩
  rw [e, filter_true]
/-- a comprehension's parts -/
theorem lc_eq {fi : Ev → Rs (List Dt)} {own : List Nat} {t : Tg} {ft : Ev → Rs Bool} {fe : Ev → Rs Dt} {E : Ev} {ds r : List Dt} (h1 : fi E = .ok ds) (h2 : ds.length ≤ 1000000) (h3 : noExc (wipeE E own) = true) (h4 : lcR t ft fe (wipeE E own) ds = .ok r) : oLc fi own t ft fe E = .ok r := by
  unfold oLc
  rw [h1]
  show (if ds.length ≤ 1000000 ∧ noExc (wipeE E own) = true then noErr (lcR t ft fe (wipeE E own) ds) else .bad) = _
  rw [if_pos ⟨h2, h3⟩, h4]
  rfl
def nat (i : Nat) : Dt := .int (0 + (i : Int))
theorem nat_eq (i : Nat) : nat i = .int (i : Int) := by unfold nat; rw [Int.zero_add]
theorem rng0 (n : Nat) : rng 0 n = (List.range n).map nat := rfl
theorem rng_from (a n : Nat) : rng (a : Int) n = (List.range' a n).map nat := by
  unfold rng
  rw [List.range'_eq_map_range, List.map_map]
  congr 1
  funext i
  simp [nat]
theorem okR_nat {n : Nat} (h : n ≤ 1000000) : okR (n : Int) = true := by
  unfold okR
  simp only [Bool.and_eq_true, decide_eq_true_eq]
  omega
theorem atI_ok {α : Type} {l : List α} {k : Nat} (h : k < l.length) : atI l (k : Int) = some l[k] := atI_nat (List.getElem?_eq_getElem h)
theorem len_rng (lo : Int) (n : Nat) : (rng lo n).length = n := by simp [rng]
theorem kR1_nat {n : Nat} (h : n ≤ 1000000) : kR1 [.int (n : Int)] = .ok (rng 0 n) := by
  rw [kR1_int, if_pos (okR_nat h), Int.toNat_natCast]
theorem kR2_nat {a n : Nat} (h : a ≤ 1000000) (h2 : n ≤ 1000000) : kR2 [.int (a : Int), .int (n : Int)] = .ok ((List.range' a (n - a)).map nat) := by
  rw [kR2_int, if_pos ⟨okR_nat h, okR_nat h2⟩, ← rng_from]
  congr 2
  omega
end PL
set_option maxHeartbeats 4000000
namespace k40
open PySem L2 PL
open PyProof.Rows hiding St
abbrev prog : Program := PySem.Challenge.pw_waybill_k40_loads_and_crossings
def topS (i : Nat) : Stmt := prog.main.body.getD i (.Pass ⟨0, 0, 0, 0⟩)
abbrev s__law_cell : Stmt := topS 60
abbrev s__law_draw : Stmt := topS 61
abbrev s__law_load : Stmt := topS 62
abbrev s__law_loads : Stmt := topS 63
abbrev s__law_bad : Stmt := topS 66
abbrev s__law_spoilt : Stmt := topS 67
abbrev s__law_due : Stmt := topS 68
abbrev s_is_number : Stmt := topS 10
abbrev s_check_loads : Stmt := topS 15
abbrev s_do_cross : Stmt := topS 16
abbrev s_crossing_pairs : Stmt := topS 18
abbrev s_is_choice : Stmt := topS 19
abbrev s_is_free : Stmt := topS 20
abbrev s_check_stowage : Stmt := topS 23
abbrev s_run_stowage : Stmt := topS 26
abbrev s_one_bay : Stmt := topS 29
abbrev s_check_worths : Stmt := topS 30
abbrev s_most_in_one_bay : Stmt := topS 35
abbrev s_check_fixed : Stmt := topS 51
abbrev s_two_bays : Stmt := topS 57
abbrev s_is_bays : Stmt := topS 52
abbrev s_is_odd_ring : Stmt := topS 54
abbrev s_is_bad_path : Stmt := topS 55
abbrev s_count_bays : Stmt := topS 58
abbrev s_shortest_odd_ring : Stmt := topS 56
abbrev s__law_call : Stmt := topS 69
abbrev s__law_told : Stmt := topS 70
abbrev s__law_cross : Stmt := topS 64
abbrev s__law_is_integer : Stmt := topS 65
abbrev s__law_pairs_right : Stmt := topS 73
abbrev s_crosses : Stmt := topS 17
abbrev s__law_refused_at : Stmt := topS 71
abbrev s__law_crosses_right : Stmt := topS 72
abbrev s__law_lists : Stmt := topS 75
abbrev s__law_free : Stmt := topS 74
abbrev s_law : Stmt := topS 76
theorem sc__law_cell : FnScope ["script", "k"] ["script", "k"] (defScope s__law_cell) := ⟨rfl, rfl, rfl, by decide +kernel, rfl, by decide +kernel, by decide +kernel⟩
theorem sc__law_draw : FnScope ["script", "k", "cell", "mixed"] ["script", "k"] (defScope s__law_draw) := ⟨rfl, rfl, rfl, by decide +kernel, rfl, by decide +kernel, by decide +kernel⟩
theorem sc__law_load : FnScope ["value", "stops", "board"] ["value", "stops"] (defScope s__law_load) := ⟨rfl, rfl, rfl, by decide +kernel, rfl, by decide +kernel, by decide +kernel⟩
theorem sc__law_loads : FnScope ["script", "first", "many", "second", "stops", "k"] ["script"] (defScope s__law_loads) := ⟨rfl, rfl, rfl, by decide +kernel, rfl, by decide +kernel, by decide +kernel⟩
theorem sc__law_bad : FnScope ["kind", "more"] ["kind", "more"] (defScope s__law_bad) := ⟨rfl, rfl, rfl, by decide +kernel, rfl, by decide +kernel, by decide +kernel⟩
theorem sc__law_spoilt : FnScope ["script", "loads", "value", "choice", "which", "kind", "place", "twice", "other", "more", "base", "many", "spoilt", "k"] ["script", "loads"] (defScope s__law_spoilt) := ⟨rfl, rfl, rfl, by decide +kernel, rfl, by decide +kernel, by decide +kernel⟩
theorem sc__law_due : FnScope ["loads", "k"] ["loads"] (defScope s__law_due) := ⟨rfl, rfl, rfl, by decide +kernel, rfl, by decide +kernel, by decide +kernel⟩
theorem sc_is_number : FnScope ["value", "least", "most"] ["value", "least", "most"] (defScope s_is_number) := ⟨rfl, rfl, rfl, by decide +kernel, rfl, by decide +kernel, by decide +kernel⟩
theorem sc_check_loads : FnScope ["loads", "at", "board", "leave"] ["loads"] (defScope s_check_loads) := ⟨rfl, rfl, rfl, by decide +kernel, rfl, by decide +kernel, by decide +kernel⟩
theorem sc_do_cross : FnScope ["one", "other"] ["one", "other"] (defScope s_do_cross) := ⟨rfl, rfl, rfl, by decide +kernel, rfl, by decide +kernel, by decide +kernel⟩
theorem sc_crossing_pairs : FnScope ["loads", "pairs", "one", "other"] ["loads"] (defScope s_crossing_pairs) := ⟨rfl, rfl, rfl, by decide +kernel, rfl, by decide +kernel, by decide +kernel⟩
theorem sc_is_choice : FnScope ["loads", "chosen", "k"] ["loads", "chosen"] (defScope s_is_choice) := ⟨rfl, rfl, rfl, by decide +kernel, rfl, by decide +kernel, by decide +kernel⟩
theorem sc_is_free : FnScope ["loads", "chosen", "one", "other"] ["loads", "chosen"] (defScope s_is_free) := ⟨rfl, rfl, rfl, by decide +kernel, rfl, by decide +kernel, by decide +kernel⟩
theorem sc_check_stowage : FnScope ["loads", "bays"] ["loads", "bays"] (defScope s_check_stowage) := ⟨rfl, rfl, rfl, by decide +kernel, rfl, by decide +kernel, by decide +kernel⟩
theorem sc_run_stowage : FnScope ["loads", "bays"] ["loads", "bays"] (defScope s_run_stowage) := ⟨rfl, rfl, rfl, by decide +kernel, rfl, by decide +kernel, by decide +kernel⟩
theorem sc_one_bay : FnScope ["loads", "pairs"] ["loads"] (defScope s_one_bay) := ⟨rfl, rfl, rfl, by decide +kernel, rfl, by decide +kernel, by decide +kernel⟩
theorem sc_check_worths : FnScope ["loads", "worths"] ["loads", "worths"] (defScope s_check_worths) := ⟨rfl, rfl, rfl, by decide +kernel, rfl, by decide +kernel, by decide +kernel⟩
theorem sc_most_in_one_bay : FnScope ["loads", "worths"] ["loads", "worths"] (defScope s_most_in_one_bay) := ⟨rfl, rfl, rfl, by decide +kernel, rfl, by decide +kernel, by decide +kernel⟩
theorem sc_check_fixed : FnScope ["loads", "fixed"] ["loads", "fixed"] (defScope s_check_fixed) := ⟨rfl, rfl, rfl, by decide +kernel, rfl, by decide +kernel, by decide +kernel⟩
theorem sc_two_bays : FnScope ["loads", "fixed"] ["loads", "fixed"] (defScope s_two_bays) := ⟨rfl, rfl, rfl, by decide +kernel, rfl, by decide +kernel, by decide +kernel⟩
theorem sc_is_bays : FnScope ["loads", "fixed", "bays"] ["loads", "fixed", "bays"] (defScope s_is_bays) := ⟨rfl, rfl, rfl, by decide +kernel, rfl, by decide +kernel, by decide +kernel⟩
theorem sc_is_odd_ring : FnScope ["loads", "ring"] ["loads", "ring"] (defScope s_is_odd_ring) := ⟨rfl, rfl, rfl, by decide +kernel, rfl, by decide +kernel, by decide +kernel⟩
theorem sc_is_bad_path : FnScope ["loads", "fixed", "path"] ["loads", "fixed", "path"] (defScope s_is_bad_path) := ⟨rfl, rfl, rfl, by decide +kernel, rfl, by decide +kernel, by decide +kernel⟩
theorem sc_count_bays : FnScope ["loads", "fixed"] ["loads", "fixed"] (defScope s_count_bays) := ⟨rfl, rfl, rfl, by decide +kernel, rfl, by decide +kernel, by decide +kernel⟩
theorem sc_shortest_odd_ring : FnScope ["loads"] ["loads"] (defScope s_shortest_odd_ring) := ⟨rfl, rfl, rfl, by decide +kernel, rfl, by decide +kernel, by decide +kernel⟩
theorem sc__law_call : FnScope ["which", "loads", "zeros", "nones"] ["which", "loads"] (defScope s__law_call) := ⟨rfl, rfl, rfl, by decide +kernel, rfl, by decide +kernel, by decide +kernel⟩
theorem sc__law_told : FnScope ["which", "loads", "e"] ["which", "loads"] (defScope s__law_told) := ⟨rfl, rfl, rfl, by decide +kernel, rfl, by decide +kernel, by decide +kernel⟩
theorem sc__law_cross : FnScope ["one", "other", "first", "second"] ["one", "other"] (defScope s__law_cross) := ⟨rfl, rfl, rfl, by decide +kernel, rfl, by decide +kernel, by decide +kernel⟩
theorem sc__law_is_integer : FnScope ["value"] ["value"] (defScope s__law_is_integer) := ⟨rfl, rfl, rfl, by decide +kernel, rfl, by decide +kernel, by decide +kernel⟩
theorem sc__law_pairs_right : FnScope ["loads", "passed", "pairs", "due", "one", "other", "pair"] ["loads"] (defScope s__law_pairs_right) := ⟨rfl, rfl, rfl, by decide +kernel, rfl, by decide +kernel, by decide +kernel⟩
theorem sc_crosses : FnScope ["one", "other"] ["one", "other"] (defScope s_crosses) := ⟨rfl, rfl, rfl, by decide +kernel, rfl, by decide +kernel, by decide +kernel⟩
theorem sc__law_refused_at : FnScope ["one", "other", "e"] ["one", "other"] (defScope s__law_refused_at) := ⟨rfl, rfl, rfl, by decide +kernel, rfl, by decide +kernel, by decide +kernel⟩
theorem sc__law_crosses_right : FnScope ["script", "loads", "k", "due", "told", "value", "bad", "good"] ["script", "loads"] (defScope s__law_crosses_right) := ⟨rfl, rfl, rfl, by decide +kernel, rfl, by decide +kernel, by decide +kernel⟩
theorem sc__law_lists : FnScope ["script", "loads", "greedy", "k", "value", "some", "left", "lists", "j"] ["script", "loads"] (defScope s__law_lists) := ⟨rfl, rfl, rfl, by decide +kernel, rfl, by decide +kernel, by decide +kernel⟩
theorem sc__law_free : FnScope ["loads", "chosen", "k", "one", "other"] ["loads", "chosen"] (defScope s__law_free) := ⟨rfl, rfl, rfl, by decide +kernel, rfl, by decide +kernel, by decide +kernel⟩
theorem sc_law : FnScope ["script", "loads", "spoilt", "due", "passed", "which", "chosen", "told"] ["script"] (defScope s_law) := ⟨rfl, rfl, rfl, by decide +kernel, rfl, by decide +kernel, by decide +kernel⟩
/-! ### the bodies as functions of plain data -/
def b__law_cell : Ev → So := sSeq (sIf (bTest (eOp gLt (eVar 1) (eCB gLen (eCons (eVar 0) (eNil))))) (sRet (eOp gIx (eVar 0) (eVar 1))) (sNop)) (sRet (eC (.int 0)))
def f__law_cell : List Dt → Rs Dt := runF 2 b__law_cell
def b__law_draw : Ev → So := sSeq (sSet 2 (eCall 2 f__law_cell (eCons (eVar 0) (eCons (eVar 1) (eNil))))) (sSeq (sIf (bTest (eOp gGe (eVar 2) (eOp gPow (eC (.int 10)) (eC (.int 18))))) (sRet (eVar 2)) (sNop)) (sSeq (sSet 3 (eOp gMod (eCB gInt (eCons (eOp gAdd (eOp gAdd (eOp gMul (eVar 2) (eC (.int 48271))) (eOp gMul (eVar 1) (eC (.int 69621)))) (eC (.int 11))) (eNil))) (eC (.int 2147483647)))) (sSeq (sSet 3 (eOp gMod (eCB gInt (eCons (eOp gAdd (eOp gAdd (eOp gMul (eVar 3) (eC (.int 69621))) (eOp gMul (eVar 1) (eC (.int 16807)))) (eC (.int 7))) (eNil))) (eC (.int 2147483629)))) (sRet (eOp gAdd (eOp gMul (eVar 3) (eC (.int 2147483647))) (eOp gMod (eCB gInt (eCons (eOp gAdd (eOp gMul (eVar 3) (eC (.int 16807))) (eC (.int 5))) (eNil))) (eC (.int 2147483647))))))))
def f__law_draw : List Dt → Rs Dt := runF 4 b__law_draw
def b__law_load : Ev → So := sSeq (sSet 2 (eOp gMod (eCB gInt (eCons (eVar 0) (eNil))) (eOp gSub (eVar 1) (eC (.int 1))))) (sRet (eTup (eCons (eVar 2) (eCons (eOp gAdd (eOp gAdd (eVar 2) (eC (.int 1))) (eOp gMod (eCB gInt (eCons (eOp gDiv (eVar 0) (eOp gSub (eVar 1) (eC (.int 1)))) (eNil))) (eOp gSub (eOp gSub (eVar 1) (eC (.int 1))) (eVar 2)))) (eNil)))))
def f__law_load : List Dt → Rs Dt := runF 3 b__law_load
def b__law_loads : Ev → So := sSeq (sSet 1 (eCall 2 f__law_draw (eCons (eVar 0) (eCons (eC (.int 0)) (eNil))))) (sSeq (sSet 2 (eOp gMod (eCB gInt (eCons (eVar 1) (eNil))) (eC (.int 10)))) (sSeq (sIf (bTest (eOp gEq (eOp gMod (eCB gInt (eCons (eOp gDiv (eVar 1) (eC (.int 10))) (eNil))) (eC (.int 5))) (eC (.int 1)))) (sSet 2 (eOp gMod (eCB gInt (eCons (eOp gDiv (eVar 1) (eC (.int 50))) (eNil))) (eC (.int 61)))) (sNop)) (sSeq (sSet 3 (eCall 2 f__law_draw (eCons (eVar 0) (eCons (eC (.int 1)) (eNil))))) (sSeq (sSet 4 (eOp gAdd (eC (.int 2)) (eOp gMod (eCB gInt (eCons (eVar 3) (eNil))) (eC (.int 11))))) (sSeq (sIf (bTest (eOp gEq (eOp gMod (eCB gInt (eCons (eOp gDiv (eVar 3) (eC (.int 11))) (eNil))) (eC (.int 4))) (eC (.int 1)))) (sSet 4 (eOp gIx (eL (oLst (eCons (eC (.int 100)) (eCons (eOp gAdd (eC (.int 2)) (eOp gMod (eCB gInt (eCons (eOp gDiv (eVar 3) (eC (.int 88))) (eNil))) (eC (.int 99)))) (eNil))))) (eOp gMod (eCB gInt (eCons (eOp gDiv (eVar 3) (eC (.int 44))) (eNil))) (eC (.int 2))))) (sNop)) (sRet (eL (oLc (iR1 (eCons (eVar 2) (eNil))) [5] (.one 5) (bYes) (eCall 2 f__law_load (eCons (eCall 2 f__law_draw (eCons (eVar 0) (eCons (eOp gAdd (eC (.int 3)) (eVar 5)) (eNil)))) (eCons (eVar 4) (eNil))))))))))))
def f__law_loads : List Dt → Rs Dt := runF 6 b__law_loads
def b__law_bad : Ev → So := sSeq (sIf (bTest (eOp gEq (eVar 0) (eC (.int 0)))) (sRet (eTup (eCons (eOp gSub (eUn gNeg (eC (.int 1))) (eVar 1)) (eCons (eC (.int 5)) (eNil))))) (sNop)) (sSeq (sIf (bTest (eOp gEq (eVar 0) (eC (.int 1)))) (sRet (eTup (eCons (eC (.int 3)) (eCons (eOp gAdd (eC (.int 100)) (eVar 1)) (eNil))))) (sNop)) (sSeq (sIf (bTest (eOp gEq (eVar 0) (eC (.int 2)))) (sRet (eTup (eCons (eVar 1) (eCons (eVar 1) (eNil))))) (sNop)) (sRet (eTup (eCons (eOp gAdd (eC (.int 2)) (eVar 1)) (eCons (eOp gAdd (eC (.int 1)) (eOp gDiv (eVar 1) (eC (.int 2)))) (eNil)))))))
def f__law_bad : List Dt → Rs Dt := runF 2 b__law_bad
def b__law_spoilt : Ev → So := sSeq (sSet 2 (eCall 2 f__law_draw (eCons (eVar 0) (eCons (eC (.int 2)) (eNil))))) (sSeq (sSet 3 (eOp gMod (eCB gInt (eCons (eVar 2) (eNil))) (eC (.int 8)))) (sSeq (sSet 2 (eOp gDiv (eVar 2) (eC (.int 8)))) (sSeq (sSet 4 (eOp gMod (eCB gInt (eCons (eVar 2) (eNil))) (eC (.int 3)))) (sSeq (sSet 2 (eOp gDiv (eVar 2) (eC (.int 3)))) (sSeq (sSet 5 (eOp gMod (eCB gInt (eCons (eVar 2) (eNil))) (eC (.int 4)))) (sSeq (sSet 2 (eOp gDiv (eVar 2) (eC (.int 4)))) (sSeq (sSet 6 (eOp gMod (eCB gInt (eCons (eVar 2) (eNil))) (eOp gAdd (eCB gLen (eCons (eVar 1) (eNil))) (eC (.int 1))))) (sSeq (sSet 2 (eOp gDiv (eVar 2) (eOp gAdd (eCB gLen (eCons (eVar 1) (eNil))) (eC (.int 1))))) (sSeq (sSet 7 (eOp gMod (eCB gInt (eCons (eVar 2) (eNil))) (eC (.int 2)))) (sSeq (sSet 2 (eOp gDiv (eVar 2) (eC (.int 2)))) (sSeq (sSet 8 (eOp gMod (eCB gInt (eCons (eVar 2) (eNil))) (eC (.int 4)))) (sSeq (sSet 2 (eOp gDiv (eVar 2) (eC (.int 4)))) (sSeq (sSet 9 (eOp gIx (eL (oLst (eCons (eC (.int 0)) (eCons (eOp gMod (eCB gInt (eCons (eVar 2) (eNil))) (eC (.int 90))) (eCons (eOp gMod (eCB gInt (eCons (eVar 2) (eNil))) (eOp gPow (eC (.int 10)) (eC (.int 9)))) (eNil)))))) (eVar 4))) (sSeq (sSet 10 (eOp gAdd (eVar 1) (eL (oLst (eCons (eTup (eCons (eC (.int 0)) (eCons (eC (.int 1)) (eNil)))) (eNil)))))) (sSeq (sSet 11 (eL (oLc (iR1 (eCons (eC (.int 61)) (eNil))) [13] (.one 13) (bYes) (eOp gIx (eVar 10) (eOp gMod (eCB gInt (eCons (eVar 13) (eNil))) (eCB gLen (eCons (eVar 10) (eNil)))))))) (sSeq (sIf (bTest (eOp gEq (eVar 3) (eC (.int 0)))) (sRet (eL (oCB gList (eCons (eVar 1) (eNil))))) (sNop)) (sSeq (sIf (bTest (eOp gEq (eVar 3) (eC (.int 1)))) (sRet (eSl (eVar 11) (pNone) (pSome (eC (.int 60))))) (sNop)) (sSeq (sIf (bTest (eOp gEq (eVar 3) (eC (.int 2)))) (sRet (eVar 11)) (sNop)) (sSeq (sIf (bTest (eOp gEq (eVar 3) (eC (.int 3)))) (sRet (eOp gAdd (eL (oLst (eCons (eCall 2 f__law_bad (eCons (eVar 5) (eCons (eVar 9) (eNil)))) (eNil)))) (eVar 11))) (sNop)) (sSeq (sOwn 12 (oAdd (eOp gAdd (eSl (eVar 1) (pNone) (pSome (eVar 6))) (eL (oLst (eCons (eCall 2 f__law_bad (eCons (eVar 5) (eCons (eVar 9) (eNil)))) (eNil))))) (eSl (eVar 1) (pSome (eVar 6)) (pNone)))) (sSeq (sIf (bTest (eOp gEq (eVar 7) (eC (.int 1)))) (sApp 12 (eCall 2 f__law_bad (eCons (eVar 8) (eCons (eC (.int 0)) (eNil))))) (sNop)) (sSeq (sFz 12) (sRet (eVar 12))))))))))))))))))))))))
def f__law_spoilt : List Dt → Rs Dt := runF 14 b__law_spoilt
def b__law_due : Ev → So := sSeq (sIf (bTest (eOp gGt (eCB gLen (eCons (eVar 0) (eNil))) (eC (.int 60)))) (sRet (eTup (eCons (eC (.str "TooMany")) (eCons (eC (.int 60)) (eCons (eC (.bl true)) (eNil)))))) (sNop)) (sSeq (sFor (iR1 (eCons (eCB gLen (eCons (eVar 0) (eNil))) (eNil))) (.one 1) (sIf (bOr (bTest (eOp gLt (eOp gIx (eOp gIx (eVar 0) (eVar 1)) (eC (.int 0))) (eC (.int 0)))) (bOr (bTest (eOp gGt (eOp gIx (eOp gIx (eVar 0) (eVar 1)) (eC (.int 1))) (eC (.int 99)))) (bTest (eOp gGe (eOp gIx (eOp gIx (eVar 0) (eVar 1)) (eC (.int 0))) (eOp gIx (eOp gIx (eVar 0) (eVar 1)) (eC (.int 1))))))) (sRet (eTup (eCons (eC (.str "BadLoad")) (eCons (eVar 1) (eCons (eC (.bl true)) (eNil)))))) (sNop))) (sRet (eTup (eCons (eC (.str "none")) (eCons (eC (.int 0)) (eCons (eC (.bl false)) (eNil)))))))
def f__law_due : List Dt → Rs Dt := runF 2 b__law_due
def b_is_number : Ev → So := sSeq (sIf (bOr (bTest (eCB gIsi (eCons (eVar 0) (eCons (eC (.ty "bool")) (eNil))))) (bNot (bTest (eCB gIsi (eCons (eVar 0) (eCons (eC (.ty "int")) (eNil))))))) (sRet (eC (.bl false))) (sNop)) (sRet (eBool (bCh (eVar 1) (cCons gLe (eVar 0) (cOne gLe (eVar 2))))))
def f_is_number : List Dt → Rs Dt := runF 3 b_is_number
def b_check_loads : Ev → So := sSeq (sIf (bTest (eOp gGt (eCB gLen (eCons (eVar 0) (eNil))) (eC (.int 60)))) (sRaise "TooMany" ["limit"] (eCons (eC (.int 60)) (eNil))) (sNop)) (sFor (iR1 (eCons (eCB gLen (eCons (eVar 0) (eNil))) (eNil))) (.one 1) (sSeq (sTgt (.tup [2, 3]) (eOp gIx (eVar 0) (eVar 1))) (sIf (bOr (bNot (bTest (eCall 3 f_is_number (eCons (eVar 2) (eCons (eC (.int 0)) (eCons (eC (.int 99)) (eNil))))))) (bOr (bNot (bTest (eCall 3 f_is_number (eCons (eVar 3) (eCons (eC (.int 0)) (eCons (eC (.int 99)) (eNil))))))) (bTest (eOp gGe (eVar 2) (eVar 3))))) (sRaise "BadLoad" ["at"] (eCons (eVar 1) (eNil))) (sNop))))
def f_check_loads : List Dt → Rs Dt := runF 4 b_check_loads
def b_do_cross : Ev → So := sSeq (sIf (bTest (eOp gLt (eOp gIx (eVar 0) (eC (.int 0))) (eOp gIx (eVar 1) (eC (.int 0))))) (sRet (eBool (bCh (eOp gIx (eVar 1) (eC (.int 0))) (cCons gLt (eOp gIx (eVar 0) (eC (.int 1))) (cOne gLt (eOp gIx (eVar 1) (eC (.int 1)))))))) (sNop)) (sRet (eBool (bCh (eOp gIx (eVar 1) (eC (.int 0))) (cCons gLt (eOp gIx (eVar 0) (eC (.int 0))) (cCons gLt (eOp gIx (eVar 1) (eC (.int 1))) (cOne gLt (eOp gIx (eVar 0) (eC (.int 1)))))))))
def f_do_cross : List Dt → Rs Dt := runF 2 b_do_cross
def b_crossing_pairs : Ev → So := sSeq (sDrop (eCall 1 f_check_loads (eCons (eVar 0) (eNil)))) (sSeq (sOwn 1 (oLst (eNil))) (sSeq (sFor (iR1 (eCons (eCB gLen (eCons (eVar 0) (eNil))) (eNil))) (.one 2) (sFor (iR2 (eCons (eOp gAdd (eVar 2) (eC (.int 1))) (eCons (eCB gLen (eCons (eVar 0) (eNil))) (eNil)))) (.one 3) (sIf (bTest (eCall 2 f_do_cross (eCons (eOp gIx (eVar 0) (eVar 2)) (eCons (eOp gIx (eVar 0) (eVar 3)) (eNil))))) (sApp 1 (eTup (eCons (eVar 2) (eCons (eVar 3) (eNil))))) (sNop)))) (sSeq (sFz 1) (sRet (eVar 1)))))
def f_crossing_pairs : List Dt → Rs Dt := runF 4 b_crossing_pairs
def b_is_choice : Ev → So := sSeq (sFor (iR1 (eCons (eCB gLen (eCons (eVar 1) (eNil))) (eNil))) (.one 2) (sSeq (sIf (bNot (bTest (eCall 3 f_is_number (eCons (eOp gIx (eVar 1) (eVar 2)) (eCons (eC (.int 0)) (eCons (eOp gSub (eCB gLen (eCons (eVar 0) (eNil))) (eC (.int 1))) (eNil))))))) (sRet (eC (.bl false))) (sNop)) (sIf (bAnd (bTest (eOp gGt (eVar 2) (eC (.int 0)))) (bTest (eOp gLe (eOp gIx (eVar 1) (eVar 2)) (eOp gIx (eVar 1) (eOp gSub (eVar 2) (eC (.int 1))))))) (sRet (eC (.bl false))) (sNop)))) (sRet (eC (.bl true)))
def f_is_choice : List Dt → Rs Dt := runF 3 b_is_choice
def b_is_free : Ev → So := sSeq (sDrop (eCall 1 f_check_loads (eCons (eVar 0) (eNil)))) (sSeq (sIf (bNot (bTest (eCall 2 f_is_choice (eCons (eVar 0) (eCons (eVar 1) (eNil)))))) (sRet (eC (.bl false))) (sNop)) (sSeq (sFor (iL (eVar 1)) (.one 2) (sFor (iL (eVar 1)) (.one 3) (sIf (bTest (eCall 2 f_do_cross (eCons (eOp gIx (eVar 0) (eVar 2)) (eCons (eOp gIx (eVar 0) (eVar 3)) (eNil))))) (sRet (eC (.bl false))) (sNop)))) (sRet (eC (.bl true)))))
def f_is_free : List Dt → Rs Dt := runF 4 b_is_free
def b_check_stowage : Ev → So := sSeq (sDrop (eCall 1 f_check_loads (eCons (eVar 0) (eNil)))) sBad
def f_check_stowage : List Dt → Rs Dt := runF 2 b_check_stowage
def b_run_stowage : Ev → So := sSeq (sDrop (eCall 2 f_check_stowage (eCons (eVar 0) (eCons (eVar 1) (eNil))))) sBad
def f_run_stowage : List Dt → Rs Dt := runF 2 b_run_stowage
def b_one_bay : Ev → So := sSeq (sSet 1 (eCall 1 f_crossing_pairs (eCons (eVar 0) (eNil)))) sBad
def f_one_bay : List Dt → Rs Dt := runF 2 b_one_bay
def b_check_worths : Ev → So := sSeq (sDrop (eCall 1 f_check_loads (eCons (eVar 0) (eNil)))) sBad
def f_check_worths : List Dt → Rs Dt := runF 2 b_check_worths
def b_most_in_one_bay : Ev → So := sSeq (sDrop (eCall 2 f_check_worths (eCons (eVar 0) (eCons (eVar 1) (eNil))))) sBad
def f_most_in_one_bay : List Dt → Rs Dt := runF 2 b_most_in_one_bay
def b_check_fixed : Ev → So := sSeq (sDrop (eCall 1 f_check_loads (eCons (eVar 0) (eNil)))) sBad
def f_check_fixed : List Dt → Rs Dt := runF 2 b_check_fixed
def b_two_bays : Ev → So := sSeq (sDrop (eCall 2 f_check_fixed (eCons (eVar 0) (eCons (eVar 1) (eNil))))) sBad
def f_two_bays : List Dt → Rs Dt := runF 2 b_two_bays
def b_is_bays : Ev → So := sSeq (sDrop (eCall 2 f_check_fixed (eCons (eVar 0) (eCons (eVar 1) (eNil))))) sBad
def f_is_bays : List Dt → Rs Dt := runF 3 b_is_bays
def b_is_odd_ring : Ev → So := sSeq (sDrop (eCall 1 f_check_loads (eCons (eVar 0) (eNil)))) sBad
def f_is_odd_ring : List Dt → Rs Dt := runF 2 b_is_odd_ring
def b_is_bad_path : Ev → So := sSeq (sDrop (eCall 2 f_check_fixed (eCons (eVar 0) (eCons (eVar 1) (eNil))))) sBad
def f_is_bad_path : List Dt → Rs Dt := runF 3 b_is_bad_path
def b_count_bays : Ev → So := sSeq (sDrop (eCall 2 f_check_fixed (eCons (eVar 0) (eCons (eVar 1) (eNil))))) sBad
def f_count_bays : List Dt → Rs Dt := runF 2 b_count_bays
def b_shortest_odd_ring : Ev → So := sSeq (sDrop (eCall 1 f_check_loads (eCons (eVar 0) (eNil)))) sBad
def f_shortest_odd_ring : List Dt → Rs Dt := runF 1 b_shortest_odd_ring
def b__law_call : Ev → So := sSeq (sSet 2 (eL (oLst (eCons (eUn gNeg (eC (.int 1))) (eNil))))) (sSeq (sSet 3 (eL (oLst (eCons (eC (.int 5)) (eNil))))) (sSeq (sIf (bTest (eOp gEq (eVar 0) (eC (.int 0)))) (sRet (eCall 1 f_check_loads (eCons (eVar 1) (eNil)))) (sNop)) (sSeq (sIf (bTest (eOp gEq (eVar 0) (eC (.int 1)))) (sRet (eCall 1 f_crossing_pairs (eCons (eVar 1) (eNil)))) (sNop)) (sSeq (sIf (bTest (eOp gEq (eVar 0) (eC (.int 2)))) (sRet (eCall 2 f_is_free (eCons (eVar 1) (eCons (eL (oLst (eNil))) (eNil))))) (sNop)) (sSeq (sIf (bTest (eOp gEq (eVar 0) (eC (.int 3)))) (sRet (eCall 2 f_run_stowage (eCons (eVar 1) (eCons (eVar 2) (eNil))))) (sNop)) (sSeq (sIf (bTest (eOp gEq (eVar 0) (eC (.int 4)))) (sRet (eCall 1 f_one_bay (eCons (eVar 1) (eNil)))) (sNop)) (sSeq (sIf (bTest (eOp gEq (eVar 0) (eC (.int 5)))) (sRet (eCall 2 f_most_in_one_bay (eCons (eVar 1) (eCons (eVar 2) (eNil))))) (sNop)) (sSeq (sIf (bTest (eOp gEq (eVar 0) (eC (.int 6)))) (sRet (eCall 2 f_two_bays (eCons (eVar 1) (eCons (eVar 3) (eNil))))) (sNop)) (sSeq (sIf (bTest (eOp gEq (eVar 0) (eC (.int 7)))) (sRet (eCall 3 f_is_bays (eCons (eVar 1) (eCons (eVar 3) (eCons (eVar 2) (eNil)))))) (sNop)) (sSeq (sIf (bTest (eOp gEq (eVar 0) (eC (.int 8)))) (sRet (eCall 2 f_is_odd_ring (eCons (eVar 1) (eCons (eL (oLst (eNil))) (eNil))))) (sNop)) (sSeq (sIf (bTest (eOp gEq (eVar 0) (eC (.int 9)))) (sRet (eCall 3 f_is_bad_path (eCons (eVar 1) (eCons (eVar 3) (eCons (eL (oLst (eNil))) (eNil)))))) (sNop)) (sSeq (sIf (bTest (eOp gEq (eVar 0) (eC (.int 10)))) (sRet (eCall 2 f_count_bays (eCons (eVar 1) (eCons (eVar 3) (eNil))))) (sNop)) (sRet (eCall 1 f_shortest_odd_ring (eCons (eVar 1) (eNil))))))))))))))))
def f__law_call : List Dt → Rs Dt := runF 4 b__law_call
def b__law_told : Ev → So := sSeq (sTry (sDrop (eCall 2 f__law_call (eCons (eVar 0) (eCons (eVar 1) (eNil))))) (hAs [("BadLoad", true), ("TooMany", false)] 2 (sRet (eTup (eCons (eC (.str "BadLoad")) (eCons (eFld ["BadLoad"] 2 "at") (eCons (eAnd (eIsE [("BadLoad", true), ("TooMany", true)] 2) (eIsE [("BadLoad", true), ("TooMany", true)] 2)) (eNil)))))) (hAs [("TooMany", true)] 2 (sRet (eTup (eCons (eC (.str "TooMany")) (eCons (eFld ["TooMany"] 2 "limit") (eCons (eAnd (eIsE [("BadLoad", true), ("TooMany", true)] 2) (eIsE [("BadLoad", true), ("TooMany", true)] 2)) (eNil)))))) (hNil)))) (sRet (eTup (eCons (eC (.str "none")) (eCons (eC (.int 0)) (eCons (eC (.bl false)) (eNil))))))
def f__law_told : List Dt → Rs Dt := runF 3 b__law_told
def b__law_cross : Ev → So := sSeq (sSet 2 (eCB gMinD (eCons (eVar 0) (eCons (eVar 1) (eNil))))) (sSeq (sSet 3 (eCB gMaxD (eCons (eVar 0) (eCons (eVar 1) (eNil))))) (sRet (eAnd (eOp gLt (eOp gIx (eVar 2) (eC (.int 0))) (eOp gIx (eVar 3) (eC (.int 0)))) (eAnd (eOp gLt (eOp gIx (eVar 3) (eC (.int 0))) (eOp gIx (eVar 2) (eC (.int 1)))) (eOp gLt (eOp gIx (eVar 2) (eC (.int 1))) (eOp gIx (eVar 3) (eC (.int 1))))))))
def f__law_cross : List Dt → Rs Dt := runF 4 b__law_cross
def b__law_is_integer : Ev → So := sRet (eAnd (eCB gIsi (eCons (eVar 0) (eCons (eC (.ty "int")) (eNil)))) (eNot (eCB gIsi (eCons (eVar 0) (eCons (eC (.ty "bool")) (eNil))))))
def f__law_is_integer : List Dt → Rs Dt := runF 1 b__law_is_integer
def b__law_pairs_right : Ev → So := sSeq (sSet 1 (eL (oCB gList (eCons (eVar 0) (eNil))))) (sSeq (sSet 2 (eCall 1 f_crossing_pairs (eCons (eVar 1) (eNil)))) (sSeq (sOwn 3 (oLst (eNil))) (sSeq (sFor (iR1 (eCons (eCB gLen (eCons (eVar 0) (eNil))) (eNil))) (.one 4) (sFor (iR2 (eCons (eOp gAdd (eVar 4) (eC (.int 1))) (eCons (eCB gLen (eCons (eVar 0) (eNil))) (eNil)))) (.one 5) (sIf (bTest (eCall 2 f__law_cross (eCons (eOp gIx (eVar 0) (eVar 4)) (eCons (eOp gIx (eVar 0) (eVar 5)) (eNil))))) (sApp 3 (eTup (eCons (eVar 4) (eCons (eVar 5) (eNil))))) (sNop)))) (sSeq (sFz 3) (sSeq (sIf (bOr (bNot (bTest (eCB gIsi (eCons (eVar 2) (eCons (eC (.ty "list")) (eNil)))))) (bOr (bTest (eOp gNe (eVar 2) (eVar 3))) (bTest (eOp gNe (eVar 1) (eVar 0))))) (sRet (eC (.bl false))) (sNop)) (sRet (eOp gEq (eCB gLen (eCons (eL (oLc (iL (eVar 2)) [6] (.one 6) (bOr (bNot (bTest (eCall 1 f__law_is_integer (eCons (eOp gIx (eVar 6) (eC (.int 0))) (eNil))))) (bNot (bTest (eCall 1 f__law_is_integer (eCons (eOp gIx (eVar 6) (eC (.int 1))) (eNil)))))) (eVar 6))) (eNil))) (eC (.int 0)))))))))
def f__law_pairs_right : List Dt → Rs Dt := runF 7 b__law_pairs_right
def b_crosses : Ev → So := sSeq (sDrop (eCall 1 f_check_loads (eCons (eL (oLst (eCons (eVar 0) (eCons (eVar 1) (eNil))))) (eNil)))) (sRet (eCall 2 f_do_cross (eCons (eVar 0) (eCons (eVar 1) (eNil)))))
def f_crosses : List Dt → Rs Dt := runF 2 b_crosses
def b__law_refused_at : Ev → So := sSeq (sTry (sDrop (eCall 2 f_crosses (eCons (eVar 0) (eCons (eVar 1) (eNil))))) (hAs [("BadLoad", true), ("TooMany", false)] 2 (sRet (eFld ["BadLoad"] 2 "at")) (hNil))) (sRet (eUn gNeg (eC (.int 1))))
def f__law_refused_at : List Dt → Rs Dt := runF 3 b__law_refused_at
def b__law_crosses_right : Ev → So := sSeq (sFor (iR2 (eCons (eC (.int 1)) (eCons (eCB gLen (eCons (eVar 1) (eNil))) (eNil)))) (.one 2) (sSeq (sSet 3 (eCall 2 f__law_cross (eCons (eOp gIx (eVar 1) (eOp gSub (eVar 2) (eC (.int 1)))) (eCons (eOp gIx (eVar 1) (eVar 2)) (eNil))))) (sFor (iL (eL (oLst (eCons (eCall 2 f_crosses (eCons (eOp gIx (eVar 1) (eOp gSub (eVar 2) (eC (.int 1)))) (eCons (eOp gIx (eVar 1) (eVar 2)) (eNil)))) (eCons (eCall 2 f_crosses (eCons (eOp gIx (eVar 1) (eVar 2)) (eCons (eOp gIx (eVar 1) (eOp gSub (eVar 2) (eC (.int 1)))) (eNil)))) (eNil)))))) (.one 4) (sIf (bOr (bNot (bTest (eCB gIsi (eCons (eVar 4) (eCons (eC (.ty "bool")) (eNil)))))) (bTest (eOp gNe (eVar 4) (eVar 3)))) (sRet (eC (.bl false))) (sNop))))) (sSeq (sSet 5 (eCall 2 f__law_draw (eCons (eVar 0) (eCons (eC (.int 1)) (eNil))))) (sSeq (sSet 6 (eCall 2 f__law_bad (eCons (eOp gMod (eCB gInt (eCons (eVar 5) (eNil))) (eC (.int 4))) (eCons (eOp gMod (eCB gInt (eCons (eOp gDiv (eVar 5) (eC (.int 4))) (eNil))) (eC (.int 200))) (eNil))))) (sSeq (sSet 7 (eCall 2 f__law_load (eCons (eOp gDiv (eVar 5) (eC (.int 800))) (eCons (eC (.int 100)) (eNil))))) (sRet (eOp gEq (eL (oLst (eCons (eCall 2 f__law_refused_at (eCons (eVar 6) (eCons (eVar 7) (eNil)))) (eCons (eCall 2 f__law_refused_at (eCons (eVar 7) (eCons (eVar 6) (eNil)))) (eCons (eCall 2 f__law_refused_at (eCons (eVar 6) (eCons (eVar 6) (eNil)))) (eNil)))))) (eL (oLst (eCons (eC (.int 0)) (eCons (eC (.int 1)) (eCons (eC (.int 0)) (eNil)))))))))))
def f__law_crosses_right : List Dt → Rs Dt := runF 8 b__law_crosses_right
def b__law_lists : Ev → So := sSeq (sOwn 2 (oLst (eNil))) (sSeq (sFor (iR1 (eCons (eCB gLen (eCons (eVar 1) (eNil))) (eNil))) (.one 3) (sIf (bOwn 2 (bTest (eOp gEq (eCB gLen (eCons (eL (oLc (iL (eVar 2)) [8] (.one 8) (bTest (eCall 2 f__law_cross (eCons (eOp gIx (eVar 1) (eVar 8)) (eCons (eOp gIx (eVar 1) (eVar 3)) (eNil))))) (eVar 8))) (eNil))) (eC (.int 0))))) (sApp 2 (eVar 3)) (sNop))) (sSeq (sFz 2) (sSeq (sSet 4 (eCall 2 f__law_draw (eCons (eVar 0) (eCons (eC (.int 2)) (eNil))))) (sSeq (sOwn 5 (oLst (eNil))) (sSeq (sFor (iR1 (eCons (eCB gLen (eCons (eVar 1) (eNil))) (eNil))) (.one 3) (sSeq (sIf (bTest (eOp gEq (eOp gMod (eCB gInt (eCons (eVar 4) (eNil))) (eC (.int 3))) (eC (.int 1)))) (sApp 5 (eVar 3)) (sNop)) (sSet 4 (eOp gDiv (eVar 4) (eC (.int 3)))))) (sSeq (sFz 5) (sSeq (sSet 6 (eL (oLc (iR1 (eCons (eCB gLen (eCons (eVar 1) (eNil))) (eNil))) [3] (.one 3) (bTest (eOp (gIn true) (eVar 3) (eVar 2))) (eVar 3)))) (sSeq (sOwn 7 (oLst (eCons (eVar 2) (eCons (eVar 5) (eCons (eL (oRev (eVar 2))) (eCons (eOp gAdd (eVar 2) (eSl (eVar 2) (pSome (eUn gNeg (eC (.int 1)))) (pNone))) (eCons (eL (oLst (eCons (eCB gLen (eCons (eVar 1) (eNil))) (eNil)))) (eCons (eL (oLst (eCons (eUn gNeg (eC (.int 1))) (eNil)))) (eCons (eL (oLst (eNil))) (eCons (eL (oLst (eCons (eC (.bl false)) (eNil)))) (eCons (eL (oLst (eCons (eC (.bl false)) (eCons (eC (.bl true)) (eNil))))) (eNil)))))))))))) (sSeq (sFor (iL (eSl (eVar 6) (pNone) (pSome (eC (.int 2))))) (.one 3) (sApp 7 (eL (oCB gSorted (eCons (eOp gAdd (eVar 2) (eL (oLst (eCons (eVar 3) (eNil))))) (eNil)))))) (sSeq (sFz 7) (sRet (eVar 7))))))))))))
def f__law_lists : List Dt → Rs Dt := runF 9 b__law_lists
def b__law_free : Ev → So := sSeq (sFor (iR1 (eCons (eCB gLen (eCons (eVar 1) (eNil))) (eNil))) (.one 2) (sSeq (sIf (bOr (bNot (bTest (eCall 1 f__law_is_integer (eCons (eOp gIx (eVar 1) (eVar 2)) (eNil))))) (bOr (bTest (eOp gLt (eOp gIx (eVar 1) (eVar 2)) (eC (.int 0)))) (bTest (eOp gGe (eOp gIx (eVar 1) (eVar 2)) (eCB gLen (eCons (eVar 0) (eNil))))))) (sRet (eC (.bl false))) (sNop)) (sIf (bAnd (bTest (eOp gGt (eVar 2) (eC (.int 0)))) (bTest (eOp gLe (eOp gIx (eVar 1) (eVar 2)) (eOp gIx (eVar 1) (eOp gSub (eVar 2) (eC (.int 1))))))) (sRet (eC (.bl false))) (sNop)))) (sSeq (sFor (iL (eVar 1)) (.one 3) (sFor (iL (eVar 1)) (.one 4) (sIf (bTest (eCall 2 f__law_cross (eCons (eOp gIx (eVar 0) (eVar 3)) (eCons (eOp gIx (eVar 0) (eVar 4)) (eNil))))) (sRet (eC (.bl false))) (sNop)))) (sRet (eC (.bl true))))
def f__law_free : List Dt → Rs Dt := runF 5 b__law_free
def b_law : Ev → So := sSeq (sSet 1 (eCall 1 f__law_loads (eCons (eVar 0) (eNil)))) (sSeq (sSet 2 (eCall 2 f__law_spoilt (eCons (eVar 0) (eCons (eVar 1) (eNil))))) (sSeq (sSet 3 (eCall 1 f__law_due (eCons (eVar 2) (eNil)))) (sSeq (sSet 4 (eL (oCB gList (eCons (eVar 2) (eNil))))) (sSeq (sIf (bTest (eOp gEq (eOp gIx (eVar 3) (eC (.int 0))) (eC (.str "none")))) (sIf (bTest (eOp gIsNot (eCall 1 f_check_loads (eCons (eVar 4) (eNil))) (eC .non))) (sRet (eC (.bl false))) (sNop)) (sFor (iR1 (eCons (eC (.int 12)) (eNil))) (.one 5) (sIf (bTest (eOp gNe (eCall 2 f__law_told (eCons (eVar 5) (eCons (eVar 4) (eNil)))) (eVar 3))) (sRet (eC (.bl false))) (sNop)))) (sSeq (sIf (bOr (bTest (eOp gNe (eVar 4) (eVar 2))) (bOr (bNot (bTest (eCall 1 f__law_pairs_right (eCons (eVar 1) (eNil))))) (bNot (bTest (eCall 2 f__law_crosses_right (eCons (eVar 0) (eCons (eVar 1) (eNil)))))))) (sRet (eC (.bl false))) (sNop)) (sSeq (sFor (iL (eCall 2 f__law_lists (eCons (eVar 0) (eCons (eVar 1) (eNil))))) (.one 6) (sSeq (sSet 4 (eL (oLst (eCons (eL (oCB gList (eCons (eVar 1) (eNil)))) (eCons (eL (oCB gList (eCons (eVar 6) (eNil)))) (eNil)))))) (sSeq (sSet 7 (eCall 2 f_is_free (eCons (eOp gIx (eVar 4) (eC (.int 0))) (eCons (eOp gIx (eVar 4) (eC (.int 1))) (eNil))))) (sIf (bOr (bNot (bTest (eCB gIsi (eCons (eVar 7) (eCons (eC (.ty "bool")) (eNil)))))) (bOr (bTest (eOp gNe (eVar 7) (eCall 2 f__law_free (eCons (eVar 1) (eCons (eVar 6) (eNil)))))) (bTest (eOp gNe (eVar 4) (eL (oLst (eCons (eVar 1) (eCons (eVar 6) (eNil))))))))) (sRet (eC (.bl false))) (sNop))))) (sRet (eC (.bl true)))))))))
def f_law : List Dt → Rs Dt := runF 8 b_law
/-! ### what the top leaves -/
structure Txt (P : Program) (w : World) (K : PySem.W.Frag) (mg : Str → Option Value) (base : Heap) : Prop where
  d__law_cell : FunT K mg "_law_cell" s__law_cell ["script", "k"]
  d__law_draw : FunT K mg "_law_draw" s__law_draw ["script", "k"]
  d__law_load : FunT K mg "_law_load" s__law_load ["value", "stops"]
  d__law_loads : FunT K mg "_law_loads" s__law_loads ["script"]
  d__law_bad : FunT K mg "_law_bad" s__law_bad ["kind", "more"]
  d__law_spoilt : FunT K mg "_law_spoilt" s__law_spoilt ["script", "loads"]
  d__law_due : FunT K mg "_law_due" s__law_due ["loads"]
  d_is_number : FunT K mg "is_number" s_is_number ["value", "least", "most"]
  d_check_loads : FunT K mg "check_loads" s_check_loads ["loads"]
  d_do_cross : FunT K mg "do_cross" s_do_cross ["one", "other"]
  d_crossing_pairs : FunT K mg "crossing_pairs" s_crossing_pairs ["loads"]
  d_is_choice : FunT K mg "is_choice" s_is_choice ["loads", "chosen"]
  d_is_free : FunT K mg "is_free" s_is_free ["loads", "chosen"]
  d_check_stowage : FunT K mg "check_stowage" s_check_stowage ["loads", "bays"]
  d_run_stowage : FunT K mg "run_stowage" s_run_stowage ["loads", "bays"]
  d_one_bay : FunT K mg "one_bay" s_one_bay ["loads"]
  d_check_worths : FunT K mg "check_worths" s_check_worths ["loads", "worths"]
  d_most_in_one_bay : FunT K mg "most_in_one_bay" s_most_in_one_bay ["loads", "worths"]
  d_check_fixed : FunT K mg "check_fixed" s_check_fixed ["loads", "fixed"]
  d_two_bays : FunT K mg "two_bays" s_two_bays ["loads", "fixed"]
  d_is_bays : FunT K mg "is_bays" s_is_bays ["loads", "fixed", "bays"]
  d_is_odd_ring : FunT K mg "is_odd_ring" s_is_odd_ring ["loads", "ring"]
  d_is_bad_path : FunT K mg "is_bad_path" s_is_bad_path ["loads", "fixed", "path"]
  d_count_bays : FunT K mg "count_bays" s_count_bays ["loads", "fixed"]
  d_shortest_odd_ring : FunT K mg "shortest_odd_ring" s_shortest_odd_ring ["loads"]
  d__law_call : FunT K mg "_law_call" s__law_call ["which", "loads"]
  d__law_told : FunT K mg "_law_told" s__law_told ["which", "loads"]
  d__law_cross : FunT K mg "_law_cross" s__law_cross ["one", "other"]
  d__law_is_integer : FunT K mg "_law_is_integer" s__law_is_integer ["value"]
  d__law_pairs_right : FunT K mg "_law_pairs_right" s__law_pairs_right ["loads"]
  d_crosses : FunT K mg "crosses" s_crosses ["one", "other"]
  d__law_refused_at : FunT K mg "_law_refused_at" s__law_refused_at ["one", "other"]
  d__law_crosses_right : FunT K mg "_law_crosses_right" s__law_crosses_right ["script", "loads"]
  d__law_lists : FunT K mg "_law_lists" s__law_lists ["script", "loads"]
  d__law_free : FunT K mg "_law_free" s__law_free ["loads", "chosen"]
  d_law : FunT K mg "law" s_law ["script"]
  z_ValueError : mg "ValueError" = none
  z_bool : mg "bool" = none
  z_int : mg "int" = none
  z_isinstance : mg "isinstance" = none
  z_len : mg "len" = none
  z_list : mg "list" = none
  z_max : mg "max" = none
  z_min : mg "min" = none
  z_range : mg "range" = none
  z_sorted : mg "sorted" = none
  c_MOST_LOADS : ConI mg "MOST_LOADS" 60
  c_MOST_STOP : ConI mg "MOST_STOP" 99
  e_BadLoad : ErrT P w K mg base "BadLoad" ["at"]
  e_TooMany : ErrT P w K mg base "TooMany" ["limit"]
  h_BadLoad : HanT K mg "BadLoad" [("BadLoad", true), ("TooMany", false)]
  h_TooMany : HanT K mg "TooMany" [("TooMany", true)]
  is_ValueError : IsT K mg (.type "ValueError") [("BadLoad", true), ("TooMany", true)]
  is_WaybillError : IsTT K mg "WaybillError" [("BadLoad", true), ("TooMany", true)]
  fl_at : FldT K mg ["BadLoad"] "at"
  fl_limit : FldT K mg ["TooMany"] "limit"
section
variable {P : Program} {w : World} {K : PySem.W.Frag} {mg : Str → Option Value} {base : Heap} {f0 : Addr} {fd0 : FuncData}
theorem ok__law_cell (T : Txt P w K mg base) : OkF P w K mg base "_law_cell" 1 2 f__law_cell := by
  exact okF (k := 0) (n := 2) (g := b__law_cell) (fn := f__law_cell) T.d__law_cell sc__law_cell rfl rfl fun f0 cdv A outer s H E hr tk po =>
    pssx_cons (psx_if (ptx_cmp op_lt snd_lt (px_var 1) (px_callB call_len snd_len T.z_len (by decide +kernel) (pax_cons (px_var 0) (pax_nil))) (nomark _)) (pssx_one (psx_ret (px_ix ix_seq snd_ix (px_var 0) (px_var 1) (fun _ _ => rfl)))) (pssx_nil)) (pssx_one (psx_ret (px_int)))
theorem ok__law_draw (T : Txt P w K mg base) : OkF P w K mg base "_law_draw" 2 2 f__law_draw := by
  exact okF (k := 1) (n := 2) (g := b__law_draw) (fn := f__law_draw) T.d__law_draw sc__law_draw rfl rfl fun f0 cdv A outer s H E hr tk po =>
    pssx_cons (psx_set (i := 2) (px_callF (ok__law_cell T) hr tk (pax_cons (px_var 0) (pax_cons (px_var 1) (pax_nil)))) sc__law_draw.nd rfl (by first | exact .inl rfl | exact .inr rfl)) (pssx_cons (psx_if (ptx_cmp op_ge snd_ge (px_var 2) (px_op op_pow snd_pow (px_int) (px_int)) (nomark _)) (pssx_one (psx_ret (px_var 2))) (pssx_nil)) (pssx_cons (psx_set (i := 3) (px_op op_mod snd_mod (px_callTy call_int1 snd_int T.z_int (by decide +kernel) (pax_cons (px_op op_addX snd_add (px_op op_addX snd_add (px_op op_mul snd_mul (px_var 2) (px_int)) (px_op op_mul snd_mul (px_var 1) (px_int))) (px_int)) (pax_nil))) (px_int)) sc__law_draw.nd rfl (by first | exact .inl rfl | exact .inr rfl)) (pssx_cons (psx_set (i := 3) (px_op op_mod snd_mod (px_callTy call_int1 snd_int T.z_int (by decide +kernel) (pax_cons (px_op op_addX snd_add (px_op op_addX snd_add (px_op op_mul snd_mul (px_var 3) (px_int)) (px_op op_mul snd_mul (px_var 1) (px_int))) (px_int)) (pax_nil))) (px_int)) sc__law_draw.nd rfl (by first | exact .inl rfl | exact .inr rfl)) (pssx_one (psx_ret (px_op op_addX snd_add (px_op op_mul snd_mul (px_var 3) (px_int)) (px_op op_mod snd_mod (px_callTy call_int1 snd_int T.z_int (by decide +kernel) (pax_cons (px_op op_addX snd_add (px_op op_mul snd_mul (px_var 3) (px_int)) (px_int)) (pax_nil))) (px_int))))))))
theorem ok__law_load (T : Txt P w K mg base) : OkF P w K mg base "_law_load" 1 2 f__law_load := by
  exact okF (k := 0) (n := 2) (g := b__law_load) (fn := f__law_load) T.d__law_load sc__law_load rfl rfl fun f0 cdv A outer s H E hr tk po =>
    pssx_cons (psx_set (i := 2) (px_op op_mod snd_mod (px_callTy call_int1 snd_int T.z_int (by decide +kernel) (pax_cons (px_var 0) (pax_nil))) (px_op op_sub snd_sub (px_var 1) (px_int))) sc__law_load.nd rfl (by first | exact .inl rfl | exact .inr rfl)) (pssx_one (psx_ret (px_tup (pax_cons (px_var 2) (pax_cons (px_op op_addX snd_add (px_op op_addX snd_add (px_var 2) (px_int)) (px_op op_mod snd_mod (px_callTy call_int1 snd_int T.z_int (by decide +kernel) (pax_cons (px_op op_fdivW snd_div (px_var 0) (px_op op_sub snd_sub (px_var 1) (px_int))) (pax_nil))) (px_op op_sub snd_sub (px_op op_sub snd_sub (px_var 1) (px_int)) (px_var 2)))) (pax_nil))))))
theorem ok__law_loads (T : Txt P w K mg base) : OkF P w K mg base "_law_loads" 3 1 f__law_loads := by
  exact okF (k := 2) (n := 1) (g := b__law_loads) (fn := f__law_loads) T.d__law_loads sc__law_loads rfl rfl fun f0 cdv A outer s H E hr tk po =>
    pssx_cons (psx_set (i := 1) (px_callF (ok__law_draw T) hr tk (pax_cons (px_var 0) (pax_cons (px_int) (pax_nil)))) sc__law_loads.nd rfl (by first | exact .inl rfl | exact .inr rfl)) (pssx_cons (psx_set (i := 2) (px_op op_mod snd_mod (px_callTy call_int1 snd_int T.z_int (by decide +kernel) (pax_cons (px_var 1) (pax_nil))) (px_int)) sc__law_loads.nd rfl (by first | exact .inl rfl | exact .inr rfl)) (pssx_cons (psx_if (ptx_cmp (op_eqD hr.units) snd_eq (px_op op_mod snd_mod (px_callTy call_int1 snd_int T.z_int (by decide +kernel) (pax_cons (px_op op_fdivW snd_div (px_var 1) (px_int)) (pax_nil))) (px_int)) (px_int) (nomark _)) (pssx_one (psx_set (i := 2) (px_op op_mod snd_mod (px_callTy call_int1 snd_int T.z_int (by decide +kernel) (pax_cons (px_op op_fdivW snd_div (px_var 1) (px_int)) (pax_nil))) (px_int)) sc__law_loads.nd rfl (by first | exact .inl rfl | exact .inr rfl))) (pssx_nil)) (pssx_cons (psx_set (i := 3) (px_callF (ok__law_draw T) hr tk (pax_cons (px_var 0) (pax_cons (px_int) (pax_nil)))) sc__law_loads.nd rfl (by first | exact .inl rfl | exact .inr rfl)) (pssx_cons (psx_set (i := 4) (px_op op_addX snd_add (px_int) (px_op op_mod snd_mod (px_callTy call_int1 snd_int T.z_int (by decide +kernel) (pax_cons (px_var 3) (pax_nil))) (px_int))) sc__law_loads.nd rfl (by first | exact .inl rfl | exact .inr rfl)) (pssx_cons (psx_if (ptx_cmp (op_eqD hr.units) snd_eq (px_op op_mod snd_mod (px_callTy call_int1 snd_int T.z_int (by decide +kernel) (pax_cons (px_op op_fdivW snd_div (px_var 3) (px_int)) (pax_nil))) (px_int)) (px_int) (nomark _)) (pssx_one (psx_set (i := 4) (px_ix ix_seq snd_ix (px_new (pox_lst (pax_cons (px_int) (pax_cons (px_op op_addX snd_add (px_int) (px_op op_mod snd_mod (px_callTy call_int1 snd_int T.z_int (by decide +kernel) (pax_cons (px_op op_fdivW snd_div (px_var 3) (px_int)) (pax_nil))) (px_int))) (pax_nil))))) (px_op op_mod snd_mod (px_callTy call_int1 snd_int T.z_int (by decide +kernel) (pax_cons (px_op op_fdivW snd_div (px_var 3) (px_int)) (pax_nil))) (px_int)) (fun _ _ => rfl)) sc__law_loads.nd rfl (by first | exact .inl rfl | exact .inr rfl))) (pssx_nil)) (pssx_one (psx_ret (px_new (pox_lc (own := [("k", 5)]) rfl sc__law_loads.nd (pix_r1 T.z_range (pax_cons (px_var 2) (pax_nil))) (blkOk_by (N := ["script", "first", "many", "second", "stops", "k"]) (sc := defScope s__law_loads) (by decide +kernel)) (fun _ _ _ _ _ => pg_name (i := 5) sc__law_loads.nd rfl (by first | exact .inl rfl | exact .inr rfl)) (fun _ _ _ _ _ => ptsx_nil) (fun _ _ _ _ _ => px_callF (ok__law_load T) (hr.mono (by decide)) tk00 (pax_cons (px_callF (ok__law_draw T) hr tk00 (pax_cons (px_var 0) (pax_cons (px_op op_addX snd_add (px_int) (px_var 5)) (pax_nil)))) (pax_cons (px_var 4) (pax_nil)))) (by decide))))))))))
theorem ok__law_bad (T : Txt P w K mg base) : OkF P w K mg base "_law_bad" 1 2 f__law_bad := by
  exact okF (k := 0) (n := 2) (g := b__law_bad) (fn := f__law_bad) T.d__law_bad sc__law_bad rfl rfl fun f0 cdv A outer s H E hr tk po =>
    pssx_cons (psx_if (ptx_cmp (op_eqD hr.units) snd_eq (px_var 0) (px_int) (nomark _)) (pssx_one (psx_ret (px_tup (pax_cons (px_op op_sub snd_sub (px_un un_neg snd_neg (px_int)) (px_var 1)) (pax_cons (px_int) (pax_nil)))))) (pssx_nil)) (pssx_cons (psx_if (ptx_cmp (op_eqD hr.units) snd_eq (px_var 0) (px_int) (nomark _)) (pssx_one (psx_ret (px_tup (pax_cons (px_int) (pax_cons (px_op op_addX snd_add (px_int) (px_var 1)) (pax_nil)))))) (pssx_nil)) (pssx_cons (psx_if (ptx_cmp (op_eqD hr.units) snd_eq (px_var 0) (px_int) (nomark _)) (pssx_one (psx_ret (px_tup (pax_cons (px_var 1) (pax_cons (px_var 1) (pax_nil)))))) (pssx_nil)) (pssx_one (psx_ret (px_tup (pax_cons (px_op op_addX snd_add (px_int) (px_var 1)) (pax_cons (px_op op_addX snd_add (px_int) (px_op op_fdivW snd_div (px_var 1) (px_int))) (pax_nil))))))))
theorem ok__law_spoilt (T : Txt P w K mg base) : OkF P w K mg base "_law_spoilt" 3 2 f__law_spoilt := by
  exact okF (k := 2) (n := 2) (g := b__law_spoilt) (fn := f__law_spoilt) T.d__law_spoilt sc__law_spoilt rfl rfl fun f0 cdv A outer s H E hr tk po =>
    pssx_cons (psx_set (i := 2) (px_callF (ok__law_draw T) hr tk (pax_cons (px_var 0) (pax_cons (px_int) (pax_nil)))) sc__law_spoilt.nd rfl (by first | exact .inl rfl | exact .inr rfl)) (pssx_cons (psx_set (i := 3) (px_op op_mod snd_mod (px_callTy call_int1 snd_int T.z_int (by decide +kernel) (pax_cons (px_var 2) (pax_nil))) (px_int)) sc__law_spoilt.nd rfl (by first | exact .inl rfl | exact .inr rfl)) (pssx_cons (psx_set (i := 2) (px_op op_fdivW snd_div (px_var 2) (px_int)) sc__law_spoilt.nd rfl (by first | exact .inl rfl | exact .inr rfl)) (pssx_cons (psx_set (i := 4) (px_op op_mod snd_mod (px_callTy call_int1 snd_int T.z_int (by decide +kernel) (pax_cons (px_var 2) (pax_nil))) (px_int)) sc__law_spoilt.nd rfl (by first | exact .inl rfl | exact .inr rfl)) (pssx_cons (psx_set (i := 2) (px_op op_fdivW snd_div (px_var 2) (px_int)) sc__law_spoilt.nd rfl (by first | exact .inl rfl | exact .inr rfl)) (pssx_cons (psx_set (i := 5) (px_op op_mod snd_mod (px_callTy call_int1 snd_int T.z_int (by decide +kernel) (pax_cons (px_var 2) (pax_nil))) (px_int)) sc__law_spoilt.nd rfl (by first | exact .inl rfl | exact .inr rfl)) (pssx_cons (psx_set (i := 2) (px_op op_fdivW snd_div (px_var 2) (px_int)) sc__law_spoilt.nd rfl (by first | exact .inl rfl | exact .inr rfl)) (pssx_cons (psx_set (i := 6) (px_op op_mod snd_mod (px_callTy call_int1 snd_int T.z_int (by decide +kernel) (pax_cons (px_var 2) (pax_nil))) (px_op op_addX snd_add (px_callB call_len snd_len T.z_len (by decide +kernel) (pax_cons (px_var 1) (pax_nil))) (px_int))) sc__law_spoilt.nd rfl (by first | exact .inl rfl | exact .inr rfl)) (pssx_cons (psx_set (i := 2) (px_op op_fdivW snd_div (px_var 2) (px_op op_addX snd_add (px_callB call_len snd_len T.z_len (by decide +kernel) (pax_cons (px_var 1) (pax_nil))) (px_int))) sc__law_spoilt.nd rfl (by first | exact .inl rfl | exact .inr rfl)) (pssx_cons (psx_set (i := 7) (px_op op_mod snd_mod (px_callTy call_int1 snd_int T.z_int (by decide +kernel) (pax_cons (px_var 2) (pax_nil))) (px_int)) sc__law_spoilt.nd rfl (by first | exact .inl rfl | exact .inr rfl)) (pssx_cons (psx_set (i := 2) (px_op op_fdivW snd_div (px_var 2) (px_int)) sc__law_spoilt.nd rfl (by first | exact .inl rfl | exact .inr rfl)) (pssx_cons (psx_set (i := 8) (px_op op_mod snd_mod (px_callTy call_int1 snd_int T.z_int (by decide +kernel) (pax_cons (px_var 2) (pax_nil))) (px_int)) sc__law_spoilt.nd rfl (by first | exact .inl rfl | exact .inr rfl)) (pssx_cons (psx_set (i := 2) (px_op op_fdivW snd_div (px_var 2) (px_int)) sc__law_spoilt.nd rfl (by first | exact .inl rfl | exact .inr rfl)) (pssx_cons (psx_set (i := 9) (px_ix ix_seq snd_ix (px_new (pox_lst (pax_cons (px_int) (pax_cons (px_op op_mod snd_mod (px_callTy call_int1 snd_int T.z_int (by decide +kernel) (pax_cons (px_var 2) (pax_nil))) (px_int)) (pax_cons (px_op op_mod snd_mod (px_callTy call_int1 snd_int T.z_int (by decide +kernel) (pax_cons (px_var 2) (pax_nil))) (px_op op_pow snd_pow (px_int) (px_int))) (pax_nil)))))) (px_var 4) (fun _ _ => rfl)) sc__law_spoilt.nd rfl (by first | exact .inl rfl | exact .inr rfl)) (pssx_cons (psx_set (i := 10) (px_op op_addX snd_add (px_var 1) (px_new (pox_lst (pax_cons (px_tup (pax_cons (px_int) (pax_cons (px_int) (pax_nil)))) (pax_nil))))) sc__law_spoilt.nd rfl (by first | exact .inl rfl | exact .inr rfl)) (pssx_cons (psx_setLc (i := 11) (own := [("k", 13)]) rfl sc__law_spoilt.nd rfl rfl (by rfl) (pix_r1 T.z_range (pax_cons (px_int) (pax_nil))) (blkOk_by (N := ["script", "loads", "value", "choice", "which", "kind", "place", "twice", "other", "more", "base", "many", "spoilt", "k"]) (sc := defScope s__law_spoilt) (by decide +kernel)) (fun _ _ _ _ _ => pg_name (i := 13) sc__law_spoilt.nd rfl (by first | exact .inl rfl | exact .inr rfl)) (fun _ _ _ _ _ => ptsx_nil) (fun _ _ _ _ _ => px_ix ix_seq snd_ix (px_var 10) (px_op op_mod snd_mod (px_callTy call_int1 snd_int T.z_int (by decide +kernel) (pax_cons (px_var 13) (pax_nil))) (px_callB call_len snd_len T.z_len (by decide +kernel) (pax_cons (px_var 10) (pax_nil)))) (fun _ _ => rfl)) (by decide)) (pssx_cons (psx_if (ptx_cmp (op_eqD hr.units) snd_eq (px_var 3) (px_int) (nomark _)) (pssx_one (psx_ret (px_new (pox_callTy call_list_of snd_list T.z_list (by decide +kernel) (pax_cons (px_var 1) (pax_nil)))))) (pssx_nil)) (pssx_cons (psx_if (ptx_cmp (op_eqD hr.units) snd_eq (px_var 3) (px_int) (nomark _)) (pssx_one (psx_ret (px_sl (px_var 11) (pop_none) (pop_some (px_int))))) (pssx_nil)) (pssx_cons (psx_if (ptx_cmp (op_eqD hr.units) snd_eq (px_var 3) (px_int) (nomark _)) (pssx_one (psx_ret (px_var 11))) (pssx_nil)) (pssx_cons (psx_if (ptx_cmp (op_eqD hr.units) snd_eq (px_var 3) (px_int) (nomark _)) (pssx_one (psx_ret (px_op op_addX snd_add (px_new (pox_lst (pax_cons (px_callF (ok__law_bad T) (hr.mono (by decide)) tk (pax_cons (px_var 5) (pax_cons (px_var 9) (pax_nil)))) (pax_nil)))) (px_var 11)))) (pssx_nil)) (pssx_cons (psx_own (i := 12) (pox_add (px_op op_addX snd_add (px_sl (px_var 1) (pop_none) (pop_some (px_var 6))) (px_new (pox_lst (pax_cons (px_callF (ok__law_bad T) (hr.mono (by decide)) tk (pax_cons (px_var 5) (pax_cons (px_var 9) (pax_nil)))) (pax_nil))))) (px_sl (px_var 1) (pop_some (px_var 6)) (pop_none))) sc__law_spoilt.nd rfl (by first | exact .inl rfl | exact .inr rfl)) (pssx_cons (psx_if (ptx_cmp (op_eqD hr.units) snd_eq (px_var 7) (px_int) (nomark _)) (pssx_one (psx_app (pe_bm PySem.F.plainAttrs_list PySem.F.slot_list_append PySem.F.type_list_append mt_append (pv 12) (pa_cons (PX.pe (px_callF (ok__law_bad T) (hr.mono (by decide)) tk (pax_cons (px_var 8) (pax_cons (px_int) (pax_nil))))) pa_nil)))) (pssx_nil)) (pssx_fz (pssx_one (psx_ret (px_var 12)))))))))))))))))))))))))
theorem ok__law_due (T : Txt P w K mg base) : OkF P w K mg base "_law_due" 1 1 f__law_due := by
  exact okF (k := 0) (n := 1) (g := b__law_due) (fn := f__law_due) T.d__law_due sc__law_due rfl rfl fun f0 cdv A outer s H E hr tk po =>
    pssx_cons (psx_if (ptx_cmp op_gt snd_gt (px_callB call_len snd_len T.z_len (by decide +kernel) (pax_cons (px_var 0) (pax_nil))) (px_int) (nomark _)) (pssx_one (psx_ret (px_tup (pax_cons (px_str (by decide +kernel)) (pax_cons (px_int) (pax_cons (px_bl) (pax_nil))))))) (pssx_nil)) (pssx_cons (psx_for po rfl (pix_r1 T.z_range (pax_cons (px_callB call_len snd_len T.z_len (by decide +kernel) (pax_cons (px_var 0) (pax_nil))) (pax_nil))) (pg_name (i := 1) sc__law_due.nd rfl (by first | exact .inl rfl | exact .inr rfl)) (pssx_one (psx_if (ptx_w (pwx_or (ptx_cmp op_lt snd_lt (px_ix ix_seq snd_ix (px_ix ix_seq snd_ix (px_var 0) (px_var 1) (fun _ _ => rfl)) (px_int) (fun _ _ => rfl)) (px_int) (nomark _)) (pwx_or (ptx_cmp op_gt snd_gt (px_ix ix_seq snd_ix (px_ix ix_seq snd_ix (px_var 0) (px_var 1) (fun _ _ => rfl)) (px_int) (fun _ _ => rfl)) (px_int) (nomark _)) (pwx_or1 (ptx_cmp op_ge snd_ge (px_ix ix_seq snd_ix (px_ix ix_seq snd_ix (px_var 0) (px_var 1) (fun _ _ => rfl)) (px_int) (fun _ _ => rfl)) (px_ix ix_seq snd_ix (px_ix ix_seq snd_ix (px_var 0) (px_var 1) (fun _ _ => rfl)) (px_int) (fun _ _ => rfl)) (nomark _)))))) (pssx_one (psx_ret (px_tup (pax_cons (px_str (by decide +kernel)) (pax_cons (px_var 1) (pax_cons (px_bl) (pax_nil))))))) (pssx_nil)))) (pssx_one (psx_ret (px_tup (pax_cons (px_str (by decide +kernel)) (pax_cons (px_int) (pax_cons (px_bl) (pax_nil))))))))
theorem ok_is_number (T : Txt P w K mg base) : OkF P w K mg base "is_number" 1 3 f_is_number := by
  exact okF (k := 0) (n := 3) (g := b_is_number) (fn := f_is_number) T.d_is_number sc_is_number rfl rfl fun f0 cdv A outer s H E hr tk po =>
    pssx_cons (psx_if (ptx_w (pwx_or (ptx_v (px_callB call_isi snd_isi T.z_isinstance (by decide +kernel) (pax_cons (px_var 0) (pax_cons (px_ty T.z_bool (by decide +kernel)) (pax_nil))))) (pwx_or1 (ptx_not (ptx_v (px_callB call_isi snd_isi T.z_isinstance (by decide +kernel) (pax_cons (px_var 0) (pax_cons (px_ty T.z_int (by decide +kernel)) (pax_nil))))))))) (pssx_one (psx_ret (px_bl))) (pssx_nil)) (pssx_one (psx_ret (px_ch (px_var 1) (pch_cons op_le snd_le (px_var 0) (pch_one op_le snd_le (px_var 2))))))
theorem ok_check_loads (T : Txt P w K mg base) : OkF P w K mg base "check_loads" 3 1 f_check_loads := by
  exact okF (k := 2) (n := 1) (g := b_check_loads) (fn := f_check_loads) T.d_check_loads sc_check_loads rfl rfl fun f0 cdv A outer s H E hr tk po =>
    pssx_cons (psx_if (ptx_cmp op_gt snd_gt (px_callB call_len snd_len T.z_len (by decide +kernel) (pax_cons (px_var 0) (pax_nil))) (px_con T.c_MOST_LOADS) (nomark _)) (pssx_one (psx_err T.e_TooMany hr tk rfl (pax_cons (px_con T.c_MOST_LOADS) (pax_nil)))) (pssx_nil)) (pssx_one (psx_for po rfl (pix_r1 T.z_range (pax_cons (px_callB call_len snd_len T.z_len (by decide +kernel) (pax_cons (px_var 0) (pax_nil))) (pax_nil))) (pg_name (i := 1) sc_check_loads.nd rfl (by first | exact .inl rfl | exact .inr rfl)) (pssx_cons (psx_tgt (t := .tup [2, 3]) (px_ix ix_seq snd_ix (px_var 0) (px_var 1) (fun _ _ => rfl)) (pg_tup rfl (pgs_cons (pg_name (i := 2) sc_check_loads.nd rfl (by first | exact .inl rfl | exact .inr rfl)) (pgs_cons (pg_name (i := 3) sc_check_loads.nd rfl (by first | exact .inl rfl | exact .inr rfl)) (pgs_nil))))) (pssx_one (psx_if (ptx_w (pwx_or (ptx_not (ptx_v (px_callF (ok_is_number T) (hr.mono (by decide)) tk (pax_cons (px_var 2) (pax_cons (px_int) (pax_cons (px_con T.c_MOST_STOP) (pax_nil))))))) (pwx_or (ptx_not (ptx_v (px_callF (ok_is_number T) (hr.mono (by decide)) tk (pax_cons (px_var 3) (pax_cons (px_int) (pax_cons (px_con T.c_MOST_STOP) (pax_nil))))))) (pwx_or1 (ptx_cmp op_ge snd_ge (px_var 2) (px_var 3) (nomark _)))))) (pssx_one (psx_err T.e_BadLoad hr tk rfl (pax_cons (px_var 1) (pax_nil)))) (pssx_nil))))))
theorem ok_do_cross (T : Txt P w K mg base) : OkF P w K mg base "do_cross" 1 2 f_do_cross := by
  exact okF (k := 0) (n := 2) (g := b_do_cross) (fn := f_do_cross) T.d_do_cross sc_do_cross rfl rfl fun f0 cdv A outer s H E hr tk po =>
    pssx_cons (psx_if (ptx_cmp op_lt snd_lt (px_ix ix_seq snd_ix (px_var 0) (px_int) (fun _ _ => rfl)) (px_ix ix_seq snd_ix (px_var 1) (px_int) (fun _ _ => rfl)) (nomark _)) (pssx_one (psx_ret (px_ch (px_ix ix_seq snd_ix (px_var 1) (px_int) (fun _ _ => rfl)) (pch_cons op_lt snd_lt (px_ix ix_seq snd_ix (px_var 0) (px_int) (fun _ _ => rfl)) (pch_one op_lt snd_lt (px_ix ix_seq snd_ix (px_var 1) (px_int) (fun _ _ => rfl))))))) (pssx_nil)) (pssx_one (psx_ret (px_ch (px_ix ix_seq snd_ix (px_var 1) (px_int) (fun _ _ => rfl)) (pch_cons op_lt snd_lt (px_ix ix_seq snd_ix (px_var 0) (px_int) (fun _ _ => rfl)) (pch_cons op_lt snd_lt (px_ix ix_seq snd_ix (px_var 1) (px_int) (fun _ _ => rfl)) (pch_one op_lt snd_lt (px_ix ix_seq snd_ix (px_var 0) (px_int) (fun _ _ => rfl))))))))
theorem ok_crossing_pairs (T : Txt P w K mg base) : OkF P w K mg base "crossing_pairs" 4 1 f_crossing_pairs := by
  exact okF (k := 3) (n := 1) (g := b_crossing_pairs) (fn := f_crossing_pairs) T.d_crossing_pairs sc_crossing_pairs rfl rfl fun f0 cdv A outer s H E hr tk po =>
    pssx_cons (psx_expr (px_callF (ok_check_loads T) hr tk (pax_cons (px_var 0) (pax_nil)))) (pssx_cons (psx_own (i := 1) (pox_lst (pax_nil)) sc_crossing_pairs.nd rfl (by first | exact .inl rfl | exact .inr rfl)) (pssx_cons (psx_for po rfl (pix_r1 T.z_range (pax_cons (px_callB call_len snd_len T.z_len (by decide +kernel) (pax_cons (px_var 0) (pax_nil))) (pax_nil))) (pg_name (i := 2) sc_crossing_pairs.nd rfl (by first | exact .inl rfl | exact .inr rfl)) (pssx_one (psx_for po rfl (pix_r2 T.z_range (pax_cons (px_op op_addX snd_add (px_var 2) (px_int)) (pax_cons (px_callB call_len snd_len T.z_len (by decide +kernel) (pax_cons (px_var 0) (pax_nil))) (pax_nil)))) (pg_name (i := 3) sc_crossing_pairs.nd rfl (by first | exact .inl rfl | exact .inr rfl)) (pssx_one (psx_if (ptx_v (px_callF (ok_do_cross T) (hr.mono (by decide)) tk (pax_cons (px_ix ix_seq snd_ix (px_var 0) (px_var 2) (fun _ _ => rfl)) (pax_cons (px_ix ix_seq snd_ix (px_var 0) (px_var 3) (fun _ _ => rfl)) (pax_nil))))) (pssx_one (psx_app (pe_bm PySem.F.plainAttrs_list PySem.F.slot_list_append PySem.F.type_list_append mt_append (pv 1) (pa_cons (PX.pe (px_tup (pax_cons (px_var 2) (pax_cons (px_var 3) (pax_nil))))) pa_nil)))) (pssx_nil)))))) (pssx_fz (pssx_one (psx_ret (px_var 1))))))
theorem ok_is_choice (T : Txt P w K mg base) : OkF P w K mg base "is_choice" 2 2 f_is_choice := by
  exact okF (k := 1) (n := 2) (g := b_is_choice) (fn := f_is_choice) T.d_is_choice sc_is_choice rfl rfl fun f0 cdv A outer s H E hr tk po =>
    pssx_cons (psx_for po rfl (pix_r1 T.z_range (pax_cons (px_callB call_len snd_len T.z_len (by decide +kernel) (pax_cons (px_var 1) (pax_nil))) (pax_nil))) (pg_name (i := 2) sc_is_choice.nd rfl (by first | exact .inl rfl | exact .inr rfl)) (pssx_cons (psx_if (ptx_not (ptx_v (px_callF (ok_is_number T) hr tk (pax_cons (px_ix ix_seq snd_ix (px_var 1) (px_var 2) (fun _ _ => rfl)) (pax_cons (px_int) (pax_cons (px_op op_sub snd_sub (px_callB call_len snd_len T.z_len (by decide +kernel) (pax_cons (px_var 0) (pax_nil))) (px_int)) (pax_nil))))))) (pssx_one (psx_ret (px_bl))) (pssx_nil)) (pssx_one (psx_if (ptx_w (pwx_and (ptx_cmp op_gt snd_gt (px_var 2) (px_int) (nomark _)) (pwx_and1 (ptx_cmp op_le snd_le (px_ix ix_seq snd_ix (px_var 1) (px_var 2) (fun _ _ => rfl)) (px_ix ix_seq snd_ix (px_var 1) (px_op op_sub snd_sub (px_var 2) (px_int)) (fun _ _ => rfl)) (nomark _))))) (pssx_one (psx_ret (px_bl))) (pssx_nil))))) (pssx_one (psx_ret (px_bl)))
theorem ok_is_free (T : Txt P w K mg base) : OkF P w K mg base "is_free" 4 2 f_is_free := by
  exact okF (k := 3) (n := 2) (g := b_is_free) (fn := f_is_free) T.d_is_free sc_is_free rfl rfl fun f0 cdv A outer s H E hr tk po =>
    pssx_cons (psx_expr (px_callF (ok_check_loads T) hr tk (pax_cons (px_var 0) (pax_nil)))) (pssx_cons (psx_if (ptx_not (ptx_v (px_callF (ok_is_choice T) (hr.mono (by decide)) tk (pax_cons (px_var 0) (pax_cons (px_var 1) (pax_nil)))))) (pssx_one (psx_ret (px_bl))) (pssx_nil)) (pssx_cons (psx_for po rfl (pix_lst (px_var 1)) (pg_name (i := 2) sc_is_free.nd rfl (by first | exact .inl rfl | exact .inr rfl)) (pssx_one (psx_for po rfl (pix_lst (px_var 1)) (pg_name (i := 3) sc_is_free.nd rfl (by first | exact .inl rfl | exact .inr rfl)) (pssx_one (psx_if (ptx_v (px_callF (ok_do_cross T) (hr.mono (by decide)) tk (pax_cons (px_ix ix_seq snd_ix (px_var 0) (px_var 2) (fun _ _ => rfl)) (pax_cons (px_ix ix_seq snd_ix (px_var 0) (px_var 3) (fun _ _ => rfl)) (pax_nil))))) (pssx_one (psx_ret (px_bl))) (pssx_nil)))))) (pssx_one (psx_ret (px_bl)))))
theorem ok_check_stowage (T : Txt P w K mg base) : OkF P w K mg base "check_stowage" 4 2 f_check_stowage := by
  exact okF (k := 3) (n := 2) (g := b_check_stowage) (fn := f_check_stowage) T.d_check_stowage sc_check_stowage rfl rfl fun f0 cdv A outer s H E hr tk po =>
    pssx_cons (psx_expr (px_callF (ok_check_loads T) hr tk (pax_cons (px_var 0) (pax_nil)))) pssx_bad
theorem ok_run_stowage (T : Txt P w K mg base) : OkF P w K mg base "run_stowage" 5 2 f_run_stowage := by
  exact okF (k := 4) (n := 2) (g := b_run_stowage) (fn := f_run_stowage) T.d_run_stowage sc_run_stowage rfl rfl fun f0 cdv A outer s H E hr tk po =>
    pssx_cons (psx_expr (px_callF (ok_check_stowage T) hr tk (pax_cons (px_var 0) (pax_cons (px_var 1) (pax_nil))))) pssx_bad
theorem ok_one_bay (T : Txt P w K mg base) : OkF P w K mg base "one_bay" 5 1 f_one_bay := by
  exact okF (k := 4) (n := 1) (g := b_one_bay) (fn := f_one_bay) T.d_one_bay sc_one_bay rfl rfl fun f0 cdv A outer s H E hr tk po =>
    pssx_cons (psx_set (i := 1) (px_callF (ok_crossing_pairs T) hr tk (pax_cons (px_var 0) (pax_nil))) sc_one_bay.nd rfl (by first | exact .inl rfl | exact .inr rfl)) pssx_bad
theorem ok_check_worths (T : Txt P w K mg base) : OkF P w K mg base "check_worths" 4 2 f_check_worths := by
  exact okF (k := 3) (n := 2) (g := b_check_worths) (fn := f_check_worths) T.d_check_worths sc_check_worths rfl rfl fun f0 cdv A outer s H E hr tk po =>
    pssx_cons (psx_expr (px_callF (ok_check_loads T) hr tk (pax_cons (px_var 0) (pax_nil)))) pssx_bad
theorem ok_most_in_one_bay (T : Txt P w K mg base) : OkF P w K mg base "most_in_one_bay" 5 2 f_most_in_one_bay := by
  exact okF (k := 4) (n := 2) (g := b_most_in_one_bay) (fn := f_most_in_one_bay) T.d_most_in_one_bay sc_most_in_one_bay rfl rfl fun f0 cdv A outer s H E hr tk po =>
    pssx_cons (psx_expr (px_callF (ok_check_worths T) hr tk (pax_cons (px_var 0) (pax_cons (px_var 1) (pax_nil))))) pssx_bad
theorem ok_check_fixed (T : Txt P w K mg base) : OkF P w K mg base "check_fixed" 4 2 f_check_fixed := by
  exact okF (k := 3) (n := 2) (g := b_check_fixed) (fn := f_check_fixed) T.d_check_fixed sc_check_fixed rfl rfl fun f0 cdv A outer s H E hr tk po =>
    pssx_cons (psx_expr (px_callF (ok_check_loads T) hr tk (pax_cons (px_var 0) (pax_nil)))) pssx_bad
theorem ok_two_bays (T : Txt P w K mg base) : OkF P w K mg base "two_bays" 5 2 f_two_bays := by
  exact okF (k := 4) (n := 2) (g := b_two_bays) (fn := f_two_bays) T.d_two_bays sc_two_bays rfl rfl fun f0 cdv A outer s H E hr tk po =>
    pssx_cons (psx_expr (px_callF (ok_check_fixed T) hr tk (pax_cons (px_var 0) (pax_cons (px_var 1) (pax_nil))))) pssx_bad
theorem ok_is_bays (T : Txt P w K mg base) : OkF P w K mg base "is_bays" 5 3 f_is_bays := by
  exact okF (k := 4) (n := 3) (g := b_is_bays) (fn := f_is_bays) T.d_is_bays sc_is_bays rfl rfl fun f0 cdv A outer s H E hr tk po =>
    pssx_cons (psx_expr (px_callF (ok_check_fixed T) hr tk (pax_cons (px_var 0) (pax_cons (px_var 1) (pax_nil))))) pssx_bad
theorem ok_is_odd_ring (T : Txt P w K mg base) : OkF P w K mg base "is_odd_ring" 4 2 f_is_odd_ring := by
  exact okF (k := 3) (n := 2) (g := b_is_odd_ring) (fn := f_is_odd_ring) T.d_is_odd_ring sc_is_odd_ring rfl rfl fun f0 cdv A outer s H E hr tk po =>
    pssx_cons (psx_expr (px_callF (ok_check_loads T) hr tk (pax_cons (px_var 0) (pax_nil)))) pssx_bad
theorem ok_is_bad_path (T : Txt P w K mg base) : OkF P w K mg base "is_bad_path" 5 3 f_is_bad_path := by
  exact okF (k := 4) (n := 3) (g := b_is_bad_path) (fn := f_is_bad_path) T.d_is_bad_path sc_is_bad_path rfl rfl fun f0 cdv A outer s H E hr tk po =>
    pssx_cons (psx_expr (px_callF (ok_check_fixed T) hr tk (pax_cons (px_var 0) (pax_cons (px_var 1) (pax_nil))))) pssx_bad
theorem ok_count_bays (T : Txt P w K mg base) : OkF P w K mg base "count_bays" 5 2 f_count_bays := by
  exact okF (k := 4) (n := 2) (g := b_count_bays) (fn := f_count_bays) T.d_count_bays sc_count_bays rfl rfl fun f0 cdv A outer s H E hr tk po =>
    pssx_cons (psx_expr (px_callF (ok_check_fixed T) hr tk (pax_cons (px_var 0) (pax_cons (px_var 1) (pax_nil))))) pssx_bad
theorem ok_shortest_odd_ring (T : Txt P w K mg base) : OkF P w K mg base "shortest_odd_ring" 4 1 f_shortest_odd_ring := by
  exact okF (k := 3) (n := 1) (g := b_shortest_odd_ring) (fn := f_shortest_odd_ring) T.d_shortest_odd_ring sc_shortest_odd_ring rfl rfl fun f0 cdv A outer s H E hr tk po =>
    pssx_cons (psx_expr (px_callF (ok_check_loads T) hr tk (pax_cons (px_var 0) (pax_nil)))) pssx_bad
theorem ok__law_call (T : Txt P w K mg base) : OkF P w K mg base "_law_call" 6 2 f__law_call := by
  exact okF (k := 5) (n := 2) (g := b__law_call) (fn := f__law_call) T.d__law_call sc__law_call rfl rfl fun f0 cdv A outer s H E hr tk po =>
    pssx_cons (psx_set (i := 2) (px_new (pox_lst (pax_cons (px_un un_neg snd_neg (px_int)) (pax_nil)))) sc__law_call.nd rfl (by first | exact .inl rfl | exact .inr rfl)) (pssx_cons (psx_set (i := 3) (px_new (pox_lst (pax_cons (px_int) (pax_nil)))) sc__law_call.nd rfl (by first | exact .inl rfl | exact .inr rfl)) (pssx_cons (psx_if (ptx_cmp (op_eqD hr.units) snd_eq (px_var 0) (px_int) (nomark _)) (pssx_one (psx_ret (px_callF (ok_check_loads T) (hr.mono (by decide)) tk (pax_cons (px_var 1) (pax_nil))))) (pssx_nil)) (pssx_cons (psx_if (ptx_cmp (op_eqD hr.units) snd_eq (px_var 0) (px_int) (nomark _)) (pssx_one (psx_ret (px_callF (ok_crossing_pairs T) (hr.mono (by decide)) tk (pax_cons (px_var 1) (pax_nil))))) (pssx_nil)) (pssx_cons (psx_if (ptx_cmp (op_eqD hr.units) snd_eq (px_var 0) (px_int) (nomark _)) (pssx_one (psx_ret (px_callF (ok_is_free T) (hr.mono (by decide)) tk (pax_cons (px_var 1) (pax_cons (px_new (pox_lst (pax_nil))) (pax_nil)))))) (pssx_nil)) (pssx_cons (psx_if (ptx_cmp (op_eqD hr.units) snd_eq (px_var 0) (px_int) (nomark _)) (pssx_one (psx_ret (px_callF (ok_run_stowage T) hr tk (pax_cons (px_var 1) (pax_cons (px_var 2) (pax_nil)))))) (pssx_nil)) (pssx_cons (psx_if (ptx_cmp (op_eqD hr.units) snd_eq (px_var 0) (px_int) (nomark _)) (pssx_one (psx_ret (px_callF (ok_one_bay T) hr tk (pax_cons (px_var 1) (pax_nil))))) (pssx_nil)) (pssx_cons (psx_if (ptx_cmp (op_eqD hr.units) snd_eq (px_var 0) (px_int) (nomark _)) (pssx_one (psx_ret (px_callF (ok_most_in_one_bay T) hr tk (pax_cons (px_var 1) (pax_cons (px_var 2) (pax_nil)))))) (pssx_nil)) (pssx_cons (psx_if (ptx_cmp (op_eqD hr.units) snd_eq (px_var 0) (px_int) (nomark _)) (pssx_one (psx_ret (px_callF (ok_two_bays T) hr tk (pax_cons (px_var 1) (pax_cons (px_var 3) (pax_nil)))))) (pssx_nil)) (pssx_cons (psx_if (ptx_cmp (op_eqD hr.units) snd_eq (px_var 0) (px_int) (nomark _)) (pssx_one (psx_ret (px_callF (ok_is_bays T) hr tk (pax_cons (px_var 1) (pax_cons (px_var 3) (pax_cons (px_var 2) (pax_nil))))))) (pssx_nil)) (pssx_cons (psx_if (ptx_cmp (op_eqD hr.units) snd_eq (px_var 0) (px_int) (nomark _)) (pssx_one (psx_ret (px_callF (ok_is_odd_ring T) (hr.mono (by decide)) tk (pax_cons (px_var 1) (pax_cons (px_new (pox_lst (pax_nil))) (pax_nil)))))) (pssx_nil)) (pssx_cons (psx_if (ptx_cmp (op_eqD hr.units) snd_eq (px_var 0) (px_int) (nomark _)) (pssx_one (psx_ret (px_callF (ok_is_bad_path T) hr tk (pax_cons (px_var 1) (pax_cons (px_var 3) (pax_cons (px_new (pox_lst (pax_nil))) (pax_nil))))))) (pssx_nil)) (pssx_cons (psx_if (ptx_cmp (op_eqD hr.units) snd_eq (px_var 0) (px_int) (nomark _)) (pssx_one (psx_ret (px_callF (ok_count_bays T) hr tk (pax_cons (px_var 1) (pax_cons (px_var 3) (pax_nil)))))) (pssx_nil)) (pssx_one (psx_ret (px_callF (ok_shortest_odd_ring T) (hr.mono (by decide)) tk (pax_cons (px_var 1) (pax_nil)))))))))))))))))
theorem ok__law_told (T : Txt P w K mg base) : OkF P w K mg base "_law_told" 7 2 f__law_told := by
  obtain ⟨C_TooMany, hC_TooMany, tC_TooMany⟩ := T.h_TooMany
  obtain ⟨D_WaybillError, hD_WaybillError, tD_WaybillError⟩ := T.is_WaybillError
  obtain ⟨C_BadLoad, hC_BadLoad, tC_BadLoad⟩ := T.h_BadLoad
  exact okF (k := 6) (n := 2) (g := b__law_told) (fn := f__law_told) T.d__law_told sc__law_told rfl rfl fun f0 cdv A outer s H E hr tk po =>
    pssx_cons (psx_try rfl rfl (fun W1 pn1 xe1 tk po => pssx_one (psx_expr (px_callF (ok__law_call T) hr tk (pax_cons (px_var 0) (pax_cons (px_var 1) (pax_nil)))))) (hx_as (i := 2) sc__law_told.nd rfl rfl (clsT_name ⟨rfl, rfl, .inl hC_BadLoad⟩) tC_BadLoad (fun a oe pn cls d hz hv => pssx_one (psx_ret (px_tup (pax_cons (px_str (by decide +kernel)) (pax_cons (px_fld T.fl_at hv) (pax_cons (px_and (px_isE hD_WaybillError tD_WaybillError hv T.z_isinstance) (px_one (px_isEb T.z_ValueError (by decide +kernel) T.is_ValueError hv T.z_isinstance))) (pax_nil))))))) (hx_as (i := 2) sc__law_told.nd rfl rfl (clsT_name ⟨rfl, rfl, .inl hC_TooMany⟩) tC_TooMany (fun a oe pn cls d hz hv => pssx_one (psx_ret (px_tup (pax_cons (px_str (by decide +kernel)) (pax_cons (px_fld T.fl_limit hv) (pax_cons (px_and (px_isE hD_WaybillError tD_WaybillError hv T.z_isinstance) (px_one (px_isEb T.z_ValueError (by decide +kernel) T.is_ValueError hv T.z_isinstance))) (pax_nil))))))) (hx_nil rfl rfl tk)))) (pssx_one (psx_ret (px_tup (pax_cons (px_str (by decide +kernel)) (pax_cons (px_int) (pax_cons (px_bl) (pax_nil)))))))
theorem ok__law_cross (T : Txt P w K mg base) : OkF P w K mg base "_law_cross" 1 2 f__law_cross := by
  exact okF (k := 0) (n := 2) (g := b__law_cross) (fn := f__law_cross) T.d__law_cross sc__law_cross rfl rfl fun f0 cdv A outer s H E hr tk po =>
    pssx_cons (psx_set (i := 2) (px_callB (call_minD rfl (u65 hr)) snd_minD T.z_min (by decide +kernel) (pax_cons (px_var 0) (pax_cons (px_var 1) (pax_nil)))) sc__law_cross.nd rfl (by first | exact .inl rfl | exact .inr rfl)) (pssx_cons (psx_set (i := 3) (px_callB (call_maxD rfl (u65 hr)) snd_maxD T.z_max (by decide +kernel) (pax_cons (px_var 0) (pax_cons (px_var 1) (pax_nil)))) sc__law_cross.nd rfl (by first | exact .inl rfl | exact .inr rfl)) (pssx_one (psx_ret (px_and (px_cmp op_lt snd_lt (px_ix ix_seq snd_ix (px_var 2) (px_int) (fun _ _ => rfl)) (px_ix ix_seq snd_ix (px_var 3) (px_int) (fun _ _ => rfl)) (nomark _)) (px_and (px_cmp op_lt snd_lt (px_ix ix_seq snd_ix (px_var 3) (px_int) (fun _ _ => rfl)) (px_ix ix_seq snd_ix (px_var 2) (px_int) (fun _ _ => rfl)) (nomark _)) (px_one (px_cmp op_lt snd_lt (px_ix ix_seq snd_ix (px_var 2) (px_int) (fun _ _ => rfl)) (px_ix ix_seq snd_ix (px_var 3) (px_int) (fun _ _ => rfl)) (nomark _))))))))
theorem ok__law_is_integer (T : Txt P w K mg base) : OkF P w K mg base "_law_is_integer" 1 1 f__law_is_integer := by
  exact okF (k := 0) (n := 1) (g := b__law_is_integer) (fn := f__law_is_integer) T.d__law_is_integer sc__law_is_integer rfl rfl fun f0 cdv A outer s H E hr tk po =>
    pssx_one (psx_ret (px_and (px_callB call_isi snd_isi T.z_isinstance (by decide +kernel) (pax_cons (px_var 0) (pax_cons (px_ty T.z_int (by decide +kernel)) (pax_nil)))) (px_one (px_not (px_callB call_isi snd_isi T.z_isinstance (by decide +kernel) (pax_cons (px_var 0) (pax_cons (px_ty T.z_bool (by decide +kernel)) (pax_nil))))))))
theorem ok__law_pairs_right (T : Txt P w K mg base) : OkF P w K mg base "_law_pairs_right" 5 1 f__law_pairs_right := by
  exact okF (k := 4) (n := 1) (g := b__law_pairs_right) (fn := f__law_pairs_right) T.d__law_pairs_right sc__law_pairs_right rfl rfl fun f0 cdv A outer s H E hr tk po =>
    pssx_cons (psx_set (i := 1) (px_new (pox_callTy call_list_of snd_list T.z_list (by decide +kernel) (pax_cons (px_var 0) (pax_nil)))) sc__law_pairs_right.nd rfl (by first | exact .inl rfl | exact .inr rfl)) (pssx_cons (psx_set (i := 2) (px_callF (ok_crossing_pairs T) hr tk (pax_cons (px_var 1) (pax_nil))) sc__law_pairs_right.nd rfl (by first | exact .inl rfl | exact .inr rfl)) (pssx_cons (psx_own (i := 3) (pox_lst (pax_nil)) sc__law_pairs_right.nd rfl (by first | exact .inl rfl | exact .inr rfl)) (pssx_cons (psx_for po rfl (pix_r1 T.z_range (pax_cons (px_callB call_len snd_len T.z_len (by decide +kernel) (pax_cons (px_var 0) (pax_nil))) (pax_nil))) (pg_name (i := 4) sc__law_pairs_right.nd rfl (by first | exact .inl rfl | exact .inr rfl)) (pssx_one (psx_for po rfl (pix_r2 T.z_range (pax_cons (px_op op_addX snd_add (px_var 4) (px_int)) (pax_cons (px_callB call_len snd_len T.z_len (by decide +kernel) (pax_cons (px_var 0) (pax_nil))) (pax_nil)))) (pg_name (i := 5) sc__law_pairs_right.nd rfl (by first | exact .inl rfl | exact .inr rfl)) (pssx_one (psx_if (ptx_v (px_callF (ok__law_cross T) (hr.mono (by decide)) tk (pax_cons (px_ix ix_seq snd_ix (px_var 0) (px_var 4) (fun _ _ => rfl)) (pax_cons (px_ix ix_seq snd_ix (px_var 0) (px_var 5) (fun _ _ => rfl)) (pax_nil))))) (pssx_one (psx_app (pe_bm PySem.F.plainAttrs_list PySem.F.slot_list_append PySem.F.type_list_append mt_append (pv 3) (pa_cons (PX.pe (px_tup (pax_cons (px_var 4) (pax_cons (px_var 5) (pax_nil))))) pa_nil)))) (pssx_nil)))))) (pssx_fz (pssx_cons (psx_if (ptx_w (pwx_or (ptx_not (ptx_v (px_callB call_isi snd_isi T.z_isinstance (by decide +kernel) (pax_cons (px_var 2) (pax_cons (px_ty T.z_list (by decide +kernel)) (pax_nil)))))) (pwx_or (ptx_cmp (op_neD hr.units) snd_ne (px_var 2) (px_var 3) (nomark _)) (pwx_or1 (ptx_cmp (op_neD hr.units) snd_ne (px_var 1) (px_var 0) (nomark _)))))) (pssx_one (psx_ret (px_bl))) (pssx_nil)) (pssx_one (psx_ret (px_cmp (op_eqD hr.units) snd_eq (px_callB call_len snd_len T.z_len (by decide +kernel) (pax_cons (px_new (pox_lc (own := [("pair", 6)]) rfl sc__law_pairs_right.nd (pix_lst (px_var 2)) (blkOk_by (N := ["loads", "passed", "pairs", "due", "one", "other", "pair"]) (sc := defScope s__law_pairs_right) (by decide +kernel)) (fun _ _ _ _ _ => pg_name (i := 6) sc__law_pairs_right.nd rfl (by first | exact .inl rfl | exact .inr rfl)) (fun _ _ _ _ _ => ptsx_one (ptx_w (pwx_or (ptx_not (ptx_v (px_callF (ok__law_is_integer T) (hr.mono (by decide)) tk00 (pax_cons (px_ix ix_seq snd_ix (px_var 6) (px_int) (fun _ _ => rfl)) (pax_nil))))) (pwx_or1 (ptx_not (ptx_v (px_callF (ok__law_is_integer T) (hr.mono (by decide)) tk00 (pax_cons (px_ix ix_seq snd_ix (px_var 6) (px_int) (fun _ _ => rfl)) (pax_nil))))))))) (fun _ _ _ _ _ => px_var 6) (by decide))) (pax_nil))) (px_int) (nomark _)))))))))
theorem ok_crosses (T : Txt P w K mg base) : OkF P w K mg base "crosses" 4 2 f_crosses := by
  exact okF (k := 3) (n := 2) (g := b_crosses) (fn := f_crosses) T.d_crosses sc_crosses rfl rfl fun f0 cdv A outer s H E hr tk po =>
    pssx_cons (psx_expr (px_callF (ok_check_loads T) hr tk (pax_cons (px_new (pox_lst (pax_cons (px_var 0) (pax_cons (px_var 1) (pax_nil))))) (pax_nil)))) (pssx_one (psx_ret (px_callF (ok_do_cross T) (hr.mono (by decide)) tk (pax_cons (px_var 0) (pax_cons (px_var 1) (pax_nil))))))
theorem ok__law_refused_at (T : Txt P w K mg base) : OkF P w K mg base "_law_refused_at" 5 2 f__law_refused_at := by
  obtain ⟨C_BadLoad, hC_BadLoad, tC_BadLoad⟩ := T.h_BadLoad
  exact okF (k := 4) (n := 2) (g := b__law_refused_at) (fn := f__law_refused_at) T.d__law_refused_at sc__law_refused_at rfl rfl fun f0 cdv A outer s H E hr tk po =>
    pssx_cons (psx_try rfl rfl (fun W1 pn1 xe1 tk po => pssx_one (psx_expr (px_callF (ok_crosses T) hr tk (pax_cons (px_var 0) (pax_cons (px_var 1) (pax_nil)))))) (hx_as (i := 2) sc__law_refused_at.nd rfl rfl (clsT_name ⟨rfl, rfl, .inl hC_BadLoad⟩) tC_BadLoad (fun a oe pn cls d hz hv => pssx_one (psx_ret (px_fld T.fl_at hv))) (hx_nil rfl rfl tk))) (pssx_one (psx_ret (px_un un_neg snd_neg (px_int))))
theorem ok__law_crosses_right (T : Txt P w K mg base) : OkF P w K mg base "_law_crosses_right" 6 2 f__law_crosses_right := by
  exact okF (k := 5) (n := 2) (g := b__law_crosses_right) (fn := f__law_crosses_right) T.d__law_crosses_right sc__law_crosses_right rfl rfl fun f0 cdv A outer s H E hr tk po =>
    pssx_cons (psx_for po rfl (pix_r2 T.z_range (pax_cons (px_int) (pax_cons (px_callB call_len snd_len T.z_len (by decide +kernel) (pax_cons (px_var 1) (pax_nil))) (pax_nil)))) (pg_name (i := 2) sc__law_crosses_right.nd rfl (by first | exact .inl rfl | exact .inr rfl)) (pssx_cons (psx_set (i := 3) (px_callF (ok__law_cross T) (hr.mono (by decide)) tk (pax_cons (px_ix ix_seq snd_ix (px_var 1) (px_op op_sub snd_sub (px_var 2) (px_int)) (fun _ _ => rfl)) (pax_cons (px_ix ix_seq snd_ix (px_var 1) (px_var 2) (fun _ _ => rfl)) (pax_nil)))) sc__law_crosses_right.nd rfl (by first | exact .inl rfl | exact .inr rfl)) (pssx_one (psx_for po rfl (pix_lst (px_new (pox_lst (pax_cons (px_callF (ok_crosses T) (hr.mono (by decide)) tk (pax_cons (px_ix ix_seq snd_ix (px_var 1) (px_op op_sub snd_sub (px_var 2) (px_int)) (fun _ _ => rfl)) (pax_cons (px_ix ix_seq snd_ix (px_var 1) (px_var 2) (fun _ _ => rfl)) (pax_nil)))) (pax_cons (px_callF (ok_crosses T) (hr.mono (by decide)) tk (pax_cons (px_ix ix_seq snd_ix (px_var 1) (px_var 2) (fun _ _ => rfl)) (pax_cons (px_ix ix_seq snd_ix (px_var 1) (px_op op_sub snd_sub (px_var 2) (px_int)) (fun _ _ => rfl)) (pax_nil)))) (pax_nil)))))) (pg_name (i := 4) sc__law_crosses_right.nd rfl (by first | exact .inl rfl | exact .inr rfl)) (pssx_one (psx_if (ptx_w (pwx_or (ptx_not (ptx_v (px_callB call_isi snd_isi T.z_isinstance (by decide +kernel) (pax_cons (px_var 4) (pax_cons (px_ty T.z_bool (by decide +kernel)) (pax_nil)))))) (pwx_or1 (ptx_cmp (op_neD hr.units) snd_ne (px_var 4) (px_var 3) (nomark _))))) (pssx_one (psx_ret (px_bl))) (pssx_nil))))))) (pssx_cons (psx_set (i := 5) (px_callF (ok__law_draw T) (hr.mono (by decide)) tk (pax_cons (px_var 0) (pax_cons (px_int) (pax_nil)))) sc__law_crosses_right.nd rfl (by first | exact .inl rfl | exact .inr rfl)) (pssx_cons (psx_set (i := 6) (px_callF (ok__law_bad T) (hr.mono (by decide)) tk (pax_cons (px_op op_mod snd_mod (px_callTy call_int1 snd_int T.z_int (by decide +kernel) (pax_cons (px_var 5) (pax_nil))) (px_int)) (pax_cons (px_op op_mod snd_mod (px_callTy call_int1 snd_int T.z_int (by decide +kernel) (pax_cons (px_op op_fdivW snd_div (px_var 5) (px_int)) (pax_nil))) (px_int)) (pax_nil)))) sc__law_crosses_right.nd rfl (by first | exact .inl rfl | exact .inr rfl)) (pssx_cons (psx_set (i := 7) (px_callF (ok__law_load T) (hr.mono (by decide)) tk (pax_cons (px_op op_fdivW snd_div (px_var 5) (px_int)) (pax_cons (px_int) (pax_nil)))) sc__law_crosses_right.nd rfl (by first | exact .inl rfl | exact .inr rfl)) (pssx_one (psx_ret (px_cmp (op_eqD hr.units) snd_eq (px_new (pox_lst (pax_cons (px_callF (ok__law_refused_at T) hr tk (pax_cons (px_var 6) (pax_cons (px_var 7) (pax_nil)))) (pax_cons (px_callF (ok__law_refused_at T) hr tk (pax_cons (px_var 7) (pax_cons (px_var 6) (pax_nil)))) (pax_cons (px_callF (ok__law_refused_at T) hr tk (pax_cons (px_var 6) (pax_cons (px_var 6) (pax_nil)))) (pax_nil)))))) (px_new (pox_lst (pax_cons (px_int) (pax_cons (px_int) (pax_cons (px_int) (pax_nil)))))) (nomark _)))))))
theorem ok__law_lists (T : Txt P w K mg base) : OkF P w K mg base "_law_lists" 3 2 f__law_lists := by
  exact okF (k := 2) (n := 2) (g := b__law_lists) (fn := f__law_lists) T.d__law_lists sc__law_lists rfl rfl fun f0 cdv A outer s H E hr tk po =>
    pssx_cons (psx_own (i := 2) (pox_lst (pax_nil)) sc__law_lists.nd rfl (by first | exact .inl rfl | exact .inr rfl)) (pssx_cons (psx_for po rfl (pix_r1 T.z_range (pax_cons (px_callB call_len snd_len T.z_len (by decide +kernel) (pax_cons (px_var 1) (pax_nil))) (pax_nil))) (pg_name (i := 3) sc__law_lists.nd rfl (by first | exact .inl rfl | exact .inr rfl)) (pssx_one (psx_if (ptx_own (i := 2) (ptx_cmp (op_eqD hr.units) snd_eq (px_callB call_len snd_len T.z_len (by decide +kernel) (pax_cons (px_new (pox_lc (own := [("j", 8)]) rfl sc__law_lists.nd (pix_lst (px_var 2)) (blkOk_by (N := ["script", "loads", "greedy", "k", "value", "some", "left", "lists", "j"]) (sc := defScope s__law_lists) (by decide +kernel)) (fun _ _ _ _ _ => pg_name (i := 8) sc__law_lists.nd rfl (by first | exact .inl rfl | exact .inr rfl)) (fun _ _ _ _ _ => ptsx_one (ptx_v (px_callF (ok__law_cross T) (hr.mono (by decide)) tk00 (pax_cons (px_ix ix_seq snd_ix (px_var 1) (px_var 8) (fun _ _ => rfl)) (pax_cons (px_ix ix_seq snd_ix (px_var 1) (px_var 3) (fun _ _ => rfl)) (pax_nil)))))) (fun _ _ _ _ _ => px_var 8) (by decide))) (pax_nil))) (px_int) (nomark _))) (pssx_one (psx_app (pe_bm PySem.F.plainAttrs_list PySem.F.slot_list_append PySem.F.type_list_append mt_append (pv 2) (pa_cons (PX.pe (px_var 3)) pa_nil)))) (pssx_nil)))) (pssx_fz (pssx_cons (psx_set (i := 4) (px_callF (ok__law_draw T) hr tk (pax_cons (px_var 0) (pax_cons (px_int) (pax_nil)))) sc__law_lists.nd rfl (by first | exact .inl rfl | exact .inr rfl)) (pssx_cons (psx_own (i := 5) (pox_lst (pax_nil)) sc__law_lists.nd rfl (by first | exact .inl rfl | exact .inr rfl)) (pssx_cons (psx_for po rfl (pix_r1 T.z_range (pax_cons (px_callB call_len snd_len T.z_len (by decide +kernel) (pax_cons (px_var 1) (pax_nil))) (pax_nil))) (pg_name (i := 3) sc__law_lists.nd rfl (by first | exact .inl rfl | exact .inr rfl)) (pssx_cons (psx_if (ptx_cmp (op_eqD hr.units) snd_eq (px_op op_mod snd_mod (px_callTy call_int1 snd_int T.z_int (by decide +kernel) (pax_cons (px_var 4) (pax_nil))) (px_int)) (px_int) (nomark _)) (pssx_one (psx_app (pe_bm PySem.F.plainAttrs_list PySem.F.slot_list_append PySem.F.type_list_append mt_append (pv 5) (pa_cons (PX.pe (px_var 3)) pa_nil)))) (pssx_nil)) (pssx_one (psx_set (i := 4) (px_op op_fdivW snd_div (px_var 4) (px_int)) sc__law_lists.nd rfl (by first | exact .inl rfl | exact .inr rfl))))) (pssx_fz (pssx_cons (psx_setLc (i := 6) (own := [("k", 3)]) rfl sc__law_lists.nd rfl rfl (by rfl) (pix_r1 T.z_range (pax_cons (px_callB call_len snd_len T.z_len (by decide +kernel) (pax_cons (px_var 1) (pax_nil))) (pax_nil))) (blkOk_by (N := ["script", "loads", "greedy", "k", "value", "some", "left", "lists", "j"]) (sc := defScope s__law_lists) (by decide +kernel)) (fun _ _ _ _ _ => pg_name (i := 3) sc__law_lists.nd rfl (by first | exact .inl rfl | exact .inr rfl)) (fun _ _ _ _ _ => ptsx_one (ptx_cmp (op_notInX (u65 hr)) snd_notIn (px_var 3) (px_var 2) (by rfl))) (fun _ _ _ _ _ => px_var 3) (by decide)) (pssx_cons (psx_own (i := 7) (pox_lst (pax_cons (px_var 2) (pax_cons (px_var 5) (pax_cons (px_new (pox_rev (px_var 2))) (pax_cons (px_op op_addX snd_add (px_var 2) (px_sl (px_var 2) (pop_some (px_un un_neg snd_neg (px_int))) (pop_none))) (pax_cons (px_new (pox_lst (pax_cons (px_callB call_len snd_len T.z_len (by decide +kernel) (pax_cons (px_var 1) (pax_nil))) (pax_nil)))) (pax_cons (px_new (pox_lst (pax_cons (px_un un_neg snd_neg (px_int)) (pax_nil)))) (pax_cons (px_new (pox_lst (pax_nil))) (pax_cons (px_new (pox_lst (pax_cons (px_bl) (pax_nil)))) (pax_cons (px_new (pox_lst (pax_cons (px_bl) (pax_cons (px_bl) (pax_nil))))) (pax_nil))))))))))) sc__law_lists.nd rfl (by first | exact .inl rfl | exact .inr rfl)) (pssx_cons (psx_for po rfl (pix_lst (px_sl (px_var 6) (pop_none) (pop_some (px_int)))) (pg_name (i := 3) sc__law_lists.nd rfl (by first | exact .inl rfl | exact .inr rfl)) (pssx_one (psx_app (pe_bm PySem.F.plainAttrs_list PySem.F.slot_list_append PySem.F.type_list_append mt_append (pv 7) (pa_cons (PX.pe (px_new (pox_callB cr_sortedI snd_sorted T.z_sorted (by decide +kernel) (pax_cons (px_op op_addX snd_add (px_var 2) (px_new (pox_lst (pax_cons (px_var 3) (pax_nil))))) (pax_nil))))) pa_nil))))) (pssx_fz (pssx_one (psx_ret (px_var 7)))))))))))))
theorem ok__law_free (T : Txt P w K mg base) : OkF P w K mg base "_law_free" 2 2 f__law_free := by
  exact okF (k := 1) (n := 2) (g := b__law_free) (fn := f__law_free) T.d__law_free sc__law_free rfl rfl fun f0 cdv A outer s H E hr tk po =>
    pssx_cons (psx_for po rfl (pix_r1 T.z_range (pax_cons (px_callB call_len snd_len T.z_len (by decide +kernel) (pax_cons (px_var 1) (pax_nil))) (pax_nil))) (pg_name (i := 2) sc__law_free.nd rfl (by first | exact .inl rfl | exact .inr rfl)) (pssx_cons (psx_if (ptx_w (pwx_or (ptx_not (ptx_v (px_callF (ok__law_is_integer T) hr tk (pax_cons (px_ix ix_seq snd_ix (px_var 1) (px_var 2) (fun _ _ => rfl)) (pax_nil))))) (pwx_or (ptx_cmp op_lt snd_lt (px_ix ix_seq snd_ix (px_var 1) (px_var 2) (fun _ _ => rfl)) (px_int) (nomark _)) (pwx_or1 (ptx_cmp op_ge snd_ge (px_ix ix_seq snd_ix (px_var 1) (px_var 2) (fun _ _ => rfl)) (px_callB call_len snd_len T.z_len (by decide +kernel) (pax_cons (px_var 0) (pax_nil))) (nomark _)))))) (pssx_one (psx_ret (px_bl))) (pssx_nil)) (pssx_one (psx_if (ptx_w (pwx_and (ptx_cmp op_gt snd_gt (px_var 2) (px_int) (nomark _)) (pwx_and1 (ptx_cmp op_le snd_le (px_ix ix_seq snd_ix (px_var 1) (px_var 2) (fun _ _ => rfl)) (px_ix ix_seq snd_ix (px_var 1) (px_op op_sub snd_sub (px_var 2) (px_int)) (fun _ _ => rfl)) (nomark _))))) (pssx_one (psx_ret (px_bl))) (pssx_nil))))) (pssx_cons (psx_for po rfl (pix_lst (px_var 1)) (pg_name (i := 3) sc__law_free.nd rfl (by first | exact .inl rfl | exact .inr rfl)) (pssx_one (psx_for po rfl (pix_lst (px_var 1)) (pg_name (i := 4) sc__law_free.nd rfl (by first | exact .inl rfl | exact .inr rfl)) (pssx_one (psx_if (ptx_v (px_callF (ok__law_cross T) hr tk (pax_cons (px_ix ix_seq snd_ix (px_var 0) (px_var 3) (fun _ _ => rfl)) (pax_cons (px_ix ix_seq snd_ix (px_var 0) (px_var 4) (fun _ _ => rfl)) (pax_nil))))) (pssx_one (psx_ret (px_bl))) (pssx_nil)))))) (pssx_one (psx_ret (px_bl))))
theorem okL (F : Fun K "law" "law" s_law f0 fd0) (T : Txt P w K mg base) : FnOk P w K mg base (L2.CX P w) 8 f0 fd0 ["script"] (spF K mg 1 f_law) := by
  exact okFn (k := 7) (n := 1) (g := b_law) (fn := f_law) F sc_law rfl rfl fun cdv A outer s H E hr tk po =>
    pssx_cons (psx_set (i := 1) (px_callF (ok__law_loads T) (hr.mono (by decide)) tk (pax_cons (px_var 0) (pax_nil))) sc_law.nd rfl (by first | exact .inl rfl | exact .inr rfl)) (pssx_cons (psx_set (i := 2) (px_callF (ok__law_spoilt T) (hr.mono (by decide)) tk (pax_cons (px_var 0) (pax_cons (px_var 1) (pax_nil)))) sc_law.nd rfl (by first | exact .inl rfl | exact .inr rfl)) (pssx_cons (psx_set (i := 3) (px_callF (ok__law_due T) (hr.mono (by decide)) tk (pax_cons (px_var 2) (pax_nil))) sc_law.nd rfl (by first | exact .inl rfl | exact .inr rfl)) (pssx_cons (psx_set (i := 4) (px_new (pox_callTy call_list_of snd_list T.z_list (by decide +kernel) (pax_cons (px_var 2) (pax_nil)))) sc_law.nd rfl (by first | exact .inl rfl | exact .inr rfl)) (pssx_cons (psx_if (ptx_cmp (op_eqD hr.units) snd_eq (px_ix ix_seq snd_ix (px_var 3) (px_int) (fun _ _ => rfl)) (px_str (by decide +kernel)) (nomark _)) (pssx_one (psx_if (ptx_cmp op_notN snd_isNot (px_callF (ok_check_loads T) (hr.mono (by decide)) tk (pax_cons (px_var 4) (pax_nil))) (px_non) (nomark _)) (pssx_one (psx_ret (px_bl))) (pssx_nil))) (pssx_one (psx_for po rfl (pix_r1 T.z_range (pax_cons (px_int) (pax_nil))) (pg_name (i := 5) sc_law.nd rfl (by first | exact .inl rfl | exact .inr rfl)) (pssx_one (psx_if (ptx_cmp (op_neD hr.units) snd_ne (px_callF (ok__law_told T) hr tk (pax_cons (px_var 5) (pax_cons (px_var 4) (pax_nil)))) (px_var 3) (nomark _)) (pssx_one (psx_ret (px_bl))) (pssx_nil)))))) (pssx_cons (psx_if (ptx_w (pwx_or (ptx_cmp (op_neD hr.units) snd_ne (px_var 4) (px_var 2) (nomark _)) (pwx_or (ptx_not (ptx_v (px_callF (ok__law_pairs_right T) (hr.mono (by decide)) tk (pax_cons (px_var 1) (pax_nil))))) (pwx_or1 (ptx_not (ptx_v (px_callF (ok__law_crosses_right T) (hr.mono (by decide)) tk (pax_cons (px_var 0) (pax_cons (px_var 1) (pax_nil)))))))))) (pssx_one (psx_ret (px_bl))) (pssx_nil)) (pssx_cons (psx_for po rfl (pix_lst (px_callF (ok__law_lists T) (hr.mono (by decide)) tk (pax_cons (px_var 0) (pax_cons (px_var 1) (pax_nil))))) (pg_name (i := 6) sc_law.nd rfl (by first | exact .inl rfl | exact .inr rfl)) (pssx_cons (psx_set (i := 4) (px_new (pox_lst (pax_cons (px_new (pox_callTy call_list_of snd_list T.z_list (by decide +kernel) (pax_cons (px_var 1) (pax_nil)))) (pax_cons (px_new (pox_callTy call_list_of snd_list T.z_list (by decide +kernel) (pax_cons (px_var 6) (pax_nil)))) (pax_nil))))) sc_law.nd rfl (by first | exact .inl rfl | exact .inr rfl)) (pssx_cons (psx_set (i := 7) (px_callF (ok_is_free T) (hr.mono (by decide)) tk (pax_cons (px_ix ix_seq snd_ix (px_var 4) (px_int) (fun _ _ => rfl)) (pax_cons (px_ix ix_seq snd_ix (px_var 4) (px_int) (fun _ _ => rfl)) (pax_nil)))) sc_law.nd rfl (by first | exact .inl rfl | exact .inr rfl)) (pssx_one (psx_if (ptx_w (pwx_or (ptx_not (ptx_v (px_callB call_isi snd_isi T.z_isinstance (by decide +kernel) (pax_cons (px_var 7) (pax_cons (px_ty T.z_bool (by decide +kernel)) (pax_nil)))))) (pwx_or (ptx_cmp (op_neD hr.units) snd_ne (px_var 7) (px_callF (ok__law_free T) (hr.mono (by decide)) tk (pax_cons (px_var 1) (pax_cons (px_var 6) (pax_nil)))) (nomark _)) (pwx_or1 (ptx_cmp (op_neD hr.units) snd_ne (px_var 4) (px_new (pox_lst (pax_cons (px_var 1) (pax_cons (px_var 6) (pax_nil))))) (nomark _)))))) (pssx_one (psx_ret (px_bl))) (pssx_nil)))))) (pssx_one (psx_ret (px_bl)))))))))
end
/-! ### what the top leaves, and the end -/
structure Facts (P : Program) (K : PySem.W.Frag) : Prop where
  d__law_cell : FactF K "_law_cell" s__law_cell
  d__law_draw : FactF K "_law_draw" s__law_draw
  d__law_load : FactF K "_law_load" s__law_load
  d__law_loads : FactF K "_law_loads" s__law_loads
  d__law_bad : FactF K "_law_bad" s__law_bad
  d__law_spoilt : FactF K "_law_spoilt" s__law_spoilt
  d__law_due : FactF K "_law_due" s__law_due
  d_is_number : FactF K "is_number" s_is_number
  d_check_loads : FactF K "check_loads" s_check_loads
  d_do_cross : FactF K "do_cross" s_do_cross
  d_crossing_pairs : FactF K "crossing_pairs" s_crossing_pairs
  d_is_choice : FactF K "is_choice" s_is_choice
  d_is_free : FactF K "is_free" s_is_free
  d_check_stowage : FactF K "check_stowage" s_check_stowage
  d_run_stowage : FactF K "run_stowage" s_run_stowage
  d_one_bay : FactF K "one_bay" s_one_bay
  d_check_worths : FactF K "check_worths" s_check_worths
  d_most_in_one_bay : FactF K "most_in_one_bay" s_most_in_one_bay
  d_check_fixed : FactF K "check_fixed" s_check_fixed
  d_two_bays : FactF K "two_bays" s_two_bays
  d_is_bays : FactF K "is_bays" s_is_bays
  d_is_odd_ring : FactF K "is_odd_ring" s_is_odd_ring
  d_is_bad_path : FactF K "is_bad_path" s_is_bad_path
  d_count_bays : FactF K "count_bays" s_count_bays
  d_shortest_odd_ring : FactF K "shortest_odd_ring" s_shortest_odd_ring
  d__law_call : FactF K "_law_call" s__law_call
  d__law_told : FactF K "_law_told" s__law_told
  d__law_cross : FactF K "_law_cross" s__law_cross
  d__law_is_integer : FactF K "_law_is_integer" s__law_is_integer
  d__law_pairs_right : FactF K "_law_pairs_right" s__law_pairs_right
  d_crosses : FactF K "crosses" s_crosses
  d__law_refused_at : FactF K "_law_refused_at" s__law_refused_at
  d__law_crosses_right : FactF K "_law_crosses_right" s__law_crosses_right
  d__law_lists : FactF K "_law_lists" s__law_lists
  d__law_free : FactF K "_law_free" s__law_free
  d_law : FactF K "law" s_law
  z_ValueError : PySem.W.nsIn K mainGlobals "ValueError" = some none
  z_bool : PySem.W.nsIn K mainGlobals "bool" = some none
  z_int : PySem.W.nsIn K mainGlobals "int" = some none
  z_isinstance : PySem.W.nsIn K mainGlobals "isinstance" = some none
  z_len : PySem.W.nsIn K mainGlobals "len" = some none
  z_list : PySem.W.nsIn K mainGlobals "list" = some none
  z_max : PySem.W.nsIn K mainGlobals "max" = some none
  z_min : PySem.W.nsIn K mainGlobals "min" = some none
  z_range : PySem.W.nsIn K mainGlobals "range" = some none
  z_sorted : PySem.W.nsIn K mainGlobals "sorted" = some none
  z_super : PySem.W.nsIn K mainGlobals "super" = some none
  c_MOST_LOADS : FactI K "MOST_LOADS" 60
  c_MOST_STOP : FactI K "MOST_STOP" 99
  e_BadLoad : FactE P K "BadLoad" (clsInit (topS 5)) "BadLoad.__init__" ["at"]
  e_TooMany : FactE P K "TooMany" (clsInit (topS 2)) "TooMany.__init__" ["limit"]
  x_BadLoad : FactC K "BadLoad" ["at"]
  x_TooMany : FactC K "TooMany" ["limit"]
  p_BadLoad_BadLoad : FactP K "BadLoad" "BadLoad" true
  p_TooMany_BadLoad : FactP K "TooMany" "BadLoad" false
  p_TooMany_TooMany : FactP K "TooMany" "TooMany" true
  k_BadLoad_ValueError : FactB K "BadLoad" "ValueError" true
  k_TooMany_ValueError : FactB K "TooMany" "ValueError" true
  k_BadLoad_WaybillError : FactK K "BadLoad" "WaybillError" true
  k_TooMany_WaybillError : FactK K "TooMany" "WaybillError" true
theorem txt_mk {P : Program} {w : World} {K : PySem.W.Frag} {mg : Str → Option Value} {base h : Heap} (F : Facts P K) (X : K.In h) (G : h.Ns mainGlobals mg) : Txt P w K mg base where
  d__law_cell := F.d__law_cell.funT X G fun _ _ _ _ _ _ us hl => match us, hl with | [_, _], _ => rfl
  d__law_draw := F.d__law_draw.funT X G fun _ _ _ _ _ _ us hl => match us, hl with | [_, _], _ => rfl
  d__law_load := F.d__law_load.funT X G fun _ _ _ _ _ _ us hl => match us, hl with | [_, _], _ => rfl
  d__law_loads := F.d__law_loads.funT X G fun _ _ _ _ _ _ us hl => match us, hl with | [_], _ => rfl
  d__law_bad := F.d__law_bad.funT X G fun _ _ _ _ _ _ us hl => match us, hl with | [_, _], _ => rfl
  d__law_spoilt := F.d__law_spoilt.funT X G fun _ _ _ _ _ _ us hl => match us, hl with | [_, _], _ => rfl
  d__law_due := F.d__law_due.funT X G fun _ _ _ _ _ _ us hl => match us, hl with | [_], _ => rfl
  d_is_number := F.d_is_number.funT X G fun _ _ _ _ _ _ us hl => match us, hl with | [_, _, _], _ => rfl
  d_check_loads := F.d_check_loads.funT X G fun _ _ _ _ _ _ us hl => match us, hl with | [_], _ => rfl
  d_do_cross := F.d_do_cross.funT X G fun _ _ _ _ _ _ us hl => match us, hl with | [_, _], _ => rfl
  d_crossing_pairs := F.d_crossing_pairs.funT X G fun _ _ _ _ _ _ us hl => match us, hl with | [_], _ => rfl
  d_is_choice := F.d_is_choice.funT X G fun _ _ _ _ _ _ us hl => match us, hl with | [_, _], _ => rfl
  d_is_free := F.d_is_free.funT X G fun _ _ _ _ _ _ us hl => match us, hl with | [_, _], _ => rfl
  d_check_stowage := F.d_check_stowage.funT X G fun _ _ _ _ _ _ us hl => match us, hl with | [_, _], _ => rfl
  d_run_stowage := F.d_run_stowage.funT X G fun _ _ _ _ _ _ us hl => match us, hl with | [_, _], _ => rfl
  d_one_bay := F.d_one_bay.funT X G fun _ _ _ _ _ _ us hl => match us, hl with | [_], _ => rfl
  d_check_worths := F.d_check_worths.funT X G fun _ _ _ _ _ _ us hl => match us, hl with | [_, _], _ => rfl
  d_most_in_one_bay := F.d_most_in_one_bay.funT X G fun _ _ _ _ _ _ us hl => match us, hl with | [_, _], _ => rfl
  d_check_fixed := F.d_check_fixed.funT X G fun _ _ _ _ _ _ us hl => match us, hl with | [_, _], _ => rfl
  d_two_bays := F.d_two_bays.funT X G fun _ _ _ _ _ _ us hl => match us, hl with | [_, _], _ => rfl
  d_is_bays := F.d_is_bays.funT X G fun _ _ _ _ _ _ us hl => match us, hl with | [_, _, _], _ => rfl
  d_is_odd_ring := F.d_is_odd_ring.funT X G fun _ _ _ _ _ _ us hl => match us, hl with | [_, _], _ => rfl
  d_is_bad_path := F.d_is_bad_path.funT X G fun _ _ _ _ _ _ us hl => match us, hl with | [_, _, _], _ => rfl
  d_count_bays := F.d_count_bays.funT X G fun _ _ _ _ _ _ us hl => match us, hl with | [_, _], _ => rfl
  d_shortest_odd_ring := F.d_shortest_odd_ring.funT X G fun _ _ _ _ _ _ us hl => match us, hl with | [_], _ => rfl
  d__law_call := F.d__law_call.funT X G fun _ _ _ _ _ _ us hl => match us, hl with | [_, _], _ => rfl
  d__law_told := F.d__law_told.funT X G fun _ _ _ _ _ _ us hl => match us, hl with | [_, _], _ => rfl
  d__law_cross := F.d__law_cross.funT X G fun _ _ _ _ _ _ us hl => match us, hl with | [_, _], _ => rfl
  d__law_is_integer := F.d__law_is_integer.funT X G fun _ _ _ _ _ _ us hl => match us, hl with | [_], _ => rfl
  d__law_pairs_right := F.d__law_pairs_right.funT X G fun _ _ _ _ _ _ us hl => match us, hl with | [_], _ => rfl
  d_crosses := F.d_crosses.funT X G fun _ _ _ _ _ _ us hl => match us, hl with | [_, _], _ => rfl
  d__law_refused_at := F.d__law_refused_at.funT X G fun _ _ _ _ _ _ us hl => match us, hl with | [_, _], _ => rfl
  d__law_crosses_right := F.d__law_crosses_right.funT X G fun _ _ _ _ _ _ us hl => match us, hl with | [_, _], _ => rfl
  d__law_lists := F.d__law_lists.funT X G fun _ _ _ _ _ _ us hl => match us, hl with | [_, _], _ => rfl
  d__law_free := F.d__law_free.funT X G fun _ _ _ _ _ _ us hl => match us, hl with | [_, _], _ => rfl
  d_law := F.d_law.funT X G fun _ _ _ _ _ _ us hl => match us, hl with | [_], _ => rfl
  z_ValueError := PySem.W.mg_none_of X G F.z_ValueError
  z_bool := PySem.W.mg_none_of X G F.z_bool
  z_int := PySem.W.mg_none_of X G F.z_int
  z_isinstance := PySem.W.mg_none_of X G F.z_isinstance
  z_len := PySem.W.mg_none_of X G F.z_len
  z_list := PySem.W.mg_none_of X G F.z_list
  z_max := PySem.W.mg_none_of X G F.z_max
  z_min := PySem.W.mg_none_of X G F.z_min
  z_range := PySem.W.mg_none_of X G F.z_range
  z_sorted := PySem.W.mg_none_of X G F.z_sorted
  c_MOST_LOADS := F.c_MOST_LOADS.con X G
  c_MOST_STOP := F.c_MOST_STOP.con X G
  e_BadLoad := errT_mk F.e_BadLoad X G (fun C fI cc cda oc od osl kV doc pm an ct T lk => init1 T lk (NdefX.nscope_by (by decide +kernel)) rfl rfl (fun _ => rfl) (PySem.W.mg_none_of X G F.z_super) rfl (by decide) (by decide)) fun _ _ _ _ _ _ _ _ us hl => match us, hl with | [_, _], _ => rfl
  e_TooMany := errT_mk F.e_TooMany X G (fun C fI cc cda oc od osl kV doc pm an ct T lk => init1 T lk (NdefX.nscope_by (by decide +kernel)) rfl rfl (fun _ => rfl) (PySem.W.mg_none_of X G F.z_super) rfl (by decide) (by decide)) fun _ _ _ _ _ _ _ _ us hl => match us, hl with | [_, _], _ => rfl
  h_BadLoad := hanT_mk X G ⟨F.p_BadLoad_BadLoad, F.p_TooMany_BadLoad, trivial⟩
  h_TooMany := hanT_mk X G ⟨F.p_TooMany_TooMany, trivial⟩
  is_ValueError := tblB_of X G ⟨⟨⟨_, F.x_BadLoad⟩, F.k_BadLoad_ValueError⟩, ⟨⟨_, F.x_TooMany⟩, F.k_TooMany_ValueError⟩, trivial⟩
  is_WaybillError := isTT_mk X G ⟨⟨⟨_, F.x_BadLoad⟩, F.k_BadLoad_WaybillError⟩, ⟨⟨_, F.x_TooMany⟩, F.k_TooMany_WaybillError⟩, trivial⟩
  fl_at := fldT_one F.x_BadLoad (by decide) X G
  fl_limit := fldT_one F.x_TooMany (by decide) X G
theorem all_mk {l : PySem.W.OpenLaw} {w : World} {K : PySem.W.Frag} {h : Heap} {mg : Str → Option Value} {fa : Addr} (X : K.In h) (G : h.Ns mainGlobals mg) (hfa : mg "law" = some (.ref fa)) (F : Facts l.prog K)
    (hl : ∀ ns : List Int, ns.length ≤ 63 → f_law [.scr ns] = .ok (.bl true)) :
    ∃ fd : FuncData, (∀ (s : Shared) (v : Value), BindsTo s fd ⟨[v], []⟩ [("script", v)]) ∧ ∀ base : Heap, K.In base → base.Ns mainGlobals mg → FnOk l.prog w K mg base (L2.CX l.prog w) 8 fa fd ["script"] (spLaw K) := by
  obtain ⟨f, kV, doc, pm, cd, ct, an, FL, a⟩ := F.d_law
  cases at_mg X G a hfa
  refine ⟨PySem.W.fnOf "law" "law" (defArgs s_law) (defBody s_law) (defScope s_law) .none kV doc pm an cd ct, fun s v => .of_eq rfl, fun base _ _ => ?_⟩
  exact FnOk.imp (okL FL (txt_mk F X G)) (law_sp hl)
end k40
namespace k40
open PySem L2 PL
/-! ### drawn numbers -/
theorem le_1000 {n : Nat} (h : n ≤ 1000) : n ≤ 1000000 := by omega
theorem cell_ok (ns : List Int) (k : Nat) : ∃ v : Int, f__law_cell [.scr ns, .int (k : Int)] = .ok (.int v) := by
  unfold f__law_cell
  rw [m_run]
  unfold b__law_cell
  simp [startE]
  by_cases h : k < ns.length
  · refine ⟨ns[k], ?_⟩
    simp [h, atI_ok]
  · refine ⟨0, ?_⟩
    simp [h]
theorem cMul_r {x c : Int} (h : small c = true) : cMul x c = true := by
  unfold cMul
  rw [h]
  simp
theorem cMod_c {x c : Int} (h : decide (0 < c) = true) : cMod x c = true := h
theorem cDiv_c {x c : Int} (h : (decide (0 < c) && decide (c < 2 ^ 200)) = true) : cDiv x c = true := h
theorem p18 : gPow (.int 10) (.int 18) = some (.int 1000000000000000000) := by
  rw [g_pow, if_pos (by decide +kernel)]
  congr 2
theorem draw_gen (F : List Dt → Rs Dt) (T c1 c2 c3 c4 c5 : Int) (ns : List Int) (k c : Int) (hc : F [.scr ns, .int k] = .ok (.int c)) (PW : Ev → Rs Dt) (q0 : ∀ E, PW E = .ok (.int T))
    (q1 : ∀ x, cMul x c1 = true) (q2 : ∀ x, cMul x c2 = true) (q3 : ∀ x, cMul x c3 = true) (q4 : ∀ x, cMul x c4 = true) (q5 : ∀ x, cMod x c4 = true) (q6 : ∀ x, cMod x c5 = true) :
    ∃ v, runF 4 (sSeq (sSet 2 (eCall 2 F (eCons (eVar 0) (eCons (eVar 1) (eNil))))) (sSeq (sIf (bTest (eOp gGe (eVar 2) PW)) (sRet (eVar 2)) (sNop)) (sSeq (sSet 3 (eOp gMod (eCB gInt (eCons (eOp gAdd (eOp gAdd (eOp gMul (eVar 2) (eC (.int c1))) (eOp gMul (eVar 1) (eC (.int c2)))) (eC (.int 11))) (eNil))) (eC (.int c4)))) (sSeq (sSet 3 (eOp gMod (eCB gInt (eCons (eOp gAdd (eOp gAdd (eOp gMul (eVar 3) (eC (.int c2))) (eOp gMul (eVar 1) (eC (.int c3)))) (eC (.int 7))) (eNil))) (eC (.int c5)))) (sRet (eOp gAdd (eOp gMul (eVar 3) (eC (.int c4))) (eOp gMod (eCB gInt (eCons (eOp gAdd (eOp gMul (eVar 3) (eC (.int c3))) (eC (.int 5))) (eNil))) (eC (.int c4)))))))))
      [.scr ns, .int k] = .ok (.int v) := by
  rw [m_run]
  by_cases h : T ≤ c
  · refine ⟨c, ?_⟩
    simp only [m_seq, m_set, m_call, m_cons, m_nil, m_var, startE, List.map_cons, List.map_nil, List.length_cons, List.length_nil, m_sif]
    simp [hc, q0, h]
  · simp only [m_seq, m_set, m_call, m_cons, m_nil, m_var, startE, List.map_cons, List.map_nil, List.length_cons, List.length_nil, m_sif]
    simp [hc, q0, h, q1, q2, q3, q4, q5, q6]
theorem draw_ok (ns : List Int) (k : Nat) : ∃ v : Int, f__law_draw [.scr ns, .int (k : Int)] = .ok (.int v) := by
  obtain ⟨c, hc⟩ := cell_ok ns k
  have q0 : cPow 10 18 = true := by decide +kernel
  exact draw_gen f__law_cell 1000000000000000000 48271 69621 16807 2147483647 2147483629 ns k c hc (eOp gPow (eC (.int 10)) (eC (.int 18))) (fun E => by
    rw [m_op, m_c, m_c, Rs.bind_ok, Rs.bind_ok, g_pow, if_pos q0]
    rfl) (fun x => cMul_r (by decide +kernel)) (fun x => cMul_r (by decide +kernel)) (fun x => cMul_r (by decide +kernel)) (fun x => cMul_r (by decide +kernel)) (fun x => cMod_c (by decide +kernel)) (fun x => cMod_c (by decide +kernel))
/-- a valid load -/
def vld (p : Int × Int) : Bool := decide (0 ≤ p.1) && decide (p.1 < p.2) && decide (p.2 ≤ 99)
abbrev encP (p : Int × Int) : Dt := .tup [.int p.1, .int p.2]
abbrev encL (l : List (Int × Int)) : Dt := .lst (l.map encP)
theorem load_ok (v s : Int) (h2 : 2 ≤ s) (h3 : s ≤ 100) : ∃ p, f__law_load [.int v, .int s] = .ok (encP p) ∧ vld p = true := by
  unfold f__law_load
  rw [m_run]
  unfold b__law_load
  have h1 : 0 < s - 1 := by omega
  have m0 := Int.emod_nonneg v (show s - 1 ≠ 0 by omega)
  have m1 := Int.emod_lt_of_pos v h1
  have h4 : 0 < s - 1 - v % (s - 1) := by omega
  have n0 := Int.emod_nonneg (v / (s - 1)) (show s - 1 - v % (s - 1) ≠ 0 by omega)
  have n1 := Int.emod_lt_of_pos (v / (s - 1)) h4
  have h5 : s - 1 < 2 ^ 200 := by
    have : (100 : Int) < 2 ^ 200 := by decide
    omega
  refine ⟨(v % (s - 1), v % (s - 1) + 1 + v / (s - 1) % (s - 1 - v % (s - 1))), ?_, ?_⟩
  · have c1 : cMod v (s - 1) = true := decide_eq_true h1
    have c2 : cDiv v (s - 1) = true := by
      unfold cDiv
      rw [decide_eq_true h1, decide_eq_true h5]
      rfl
    have c3 : cMod (v / (s - 1)) (s - 1 - v % (s - 1)) = true := decide_eq_true h4
    simp [startE, c1, c2, c3]
  · unfold vld
    simp only [Bool.and_eq_true, decide_eq_true_eq]
    omega
theorem geq_int (i j : Int) : gEq (.int i) (.int j) = some (.bl (decide (i = j))) := by
  have e : PyData.eqv (.int i) (.int j) = decide (i = j) := by
    rw [Bool.eq_iff_iff]
    simp [PyData.eqv]
  show (if cmpOk 60 (.int i) = true ∧ cmpOk 60 (.int j) = true then some (Dt.bl (PyData.eqv (.int i) (.int j))) else none) = _
  rw [e, if_pos ⟨rfl, rfl⟩]
theorem loads_ok (ns : List Int) : ∃ ls : List (Int × Int), f__law_loads [.scr ns] = .ok (encL ls) ∧ ls.length ≤ 60 ∧ ∀ p ∈ ls, vld p = true := by
  obtain ⟨a, ha⟩ := draw_ok ns 0
  obtain ⟨b, hb⟩ := draw_ok ns 1
  have ha : f__law_draw [.scr ns, .int 0] = .ok (.int a) := ha
  have hb : f__law_draw [.scr ns, .int 1] = .ok (.int b) := hb
  have LO := load_ok
  have DR := draw_ok ns
  unfold f__law_loads
  rw [m_run]
  unfold b__law_loads
  generalize f__law_draw = FD at *
  generalize f__law_load = FL at *
  have key : ∀ (m : Nat) (s : Int) (E : Ev), m ≤ 60 → 2 ≤ s → s ≤ 100 → E = [.val (.scr ns), .val (.int a), .val (.int (m : Int)), .val (.int b), .val (.int s), .un] →
      ∃ ls : List (Int × Int), (sRet (eL (oLc (iR1 (eCons (eVar 2) eNil)) [5] (.one 5) bYes (eCall 2 FL (eCons (eCall 2 FD (eCons (eVar 0) (eCons (eOp gAdd (eC (.int 3)) (eVar 5)) (eNil)))) (eCons (eVar 4) (eNil)))))) E).res = .ok (encL ls) ∧ ls.length ≤ 60 ∧ ∀ p ∈ ls, vld p = true := by
    intro m s E hm h2 h3 hE
    subst hE
    have hd : ∀ i : Nat, ∃ p, (∃ v, FD [.scr ns, .int (3 + (0 + (i : Int)))] = .ok (.int v) ∧ FL [.int v, .int s] = .ok (encP p)) ∧ vld p = true := by
      intro i
      obtain ⟨v, hv⟩ := DR (3 + i)
      obtain ⟨p, hp, hq⟩ := LO v s h2 h3
      refine ⟨p, ⟨v, ?_, hp⟩, hq⟩
      rw [show (3 : Int) + (0 + (i : Int)) = ((3 + i : Nat) : Int) by omega]
      exact hv
    have hd : ∃ P : Nat → Int × Int, ∀ i : Nat, (∃ v, FD [.scr ns, .int (3 + (0 + (i : Int)))] = .ok (.int v) ∧ FL [.int v, .int s] = .ok (encP (P i))) ∧ vld (P i) = true := ⟨fun i => (hd i).choose, fun i => (hd i).choose_spec⟩
    obtain ⟨P, hP⟩ := hd
    refine ⟨(List.range m).map P, ?_, by simp; omega, fun p hp => ?_⟩
    · have e := lc_eq (fi := iR1 (eCons (eVar 2) eNil)) (own := [5]) (t := .one 5) (ft := bYes) (fe := (eCall 2 FL (eCons (eCall 2 FD (eCons (eVar 0) (eCons (eOp gAdd (eC (.int 3)) (eVar 5)) (eNil)))) (eCons (eVar 4) (eNil)))))
        (E := [.val (.scr ns), .val (.int a), .val (.int (m : Int)), .val (.int b), .val (.int s), .un]) (ds := rng 0 m) (r := ((List.range m).map P).map encP) (by simp [kR1_nat (show m ≤ 1000000 by omega)]) (by rw [len_rng]; omega) (by rfl) (by
          rw [rng0, List.map_map]
          refine lcR_all nat _ _ fun i hi => ⟨_, rfl, ?_⟩
          obtain ⟨⟨v, e1, e2⟩, _⟩ := hP i
          simp [wipeE, nat, e2] at e1 ⊢
          simp [e1, e2])
      simp only [m_ret, m_L, e, Rs.bind_ok, Rs.so_ok, res_rt]
    · obtain ⟨i, _, rfl⟩ := List.mem_map.mp hp
      exact (hP i).2
  have x0 : cMod a 10 = true := cMod_c (by decide +kernel)
  have x1 : cDiv a 10 = true := cDiv_c (by decide +kernel)
  have x2 : ∀ x, cMod x 5 = true := fun x => cMod_c (by decide +kernel)
  have x3 : cDiv a 50 = true := cDiv_c (by decide +kernel)
  have x4 : ∀ x, cMod x 61 = true := fun x => cMod_c (by decide +kernel)
  have x5 : cMod b 11 = true := cMod_c (by decide +kernel)
  have x6 : cDiv b 11 = true := cDiv_c (by decide +kernel)
  have x7 : ∀ x, cMod x 4 = true := fun x => cMod_c (by decide +kernel)
  have x8 : cDiv b 88 = true := cDiv_c (by decide +kernel)
  have x9 : ∀ x, cMod x 99 = true := fun x => cMod_c (by decide +kernel)
  have x10 : cDiv b 44 = true := cDiv_c (by decide +kernel)
  have x11 : ∀ x, cMod x 2 = true := fun x => cMod_c (by decide +kernel)
  have b0 := Int.emod_nonneg a (show (10 : Int) ≠ 0 by omega)
  have b1 := Int.emod_lt_of_pos a (show (0 : Int) < 10 by omega)
  have c0 := Int.emod_nonneg (a / 50) (show (61 : Int) ≠ 0 by omega)
  have c1 := Int.emod_lt_of_pos (a / 50) (show (0 : Int) < 61 by omega)
  have d0 := Int.emod_nonneg b (show (11 : Int) ≠ 0 by omega)
  have d1 := Int.emod_lt_of_pos b (show (0 : Int) < 11 by omega)
  have e0 := Int.emod_nonneg (b / 88) (show (99 : Int) ≠ 0 by omega)
  have e1 := Int.emod_lt_of_pos (b / 88) (show (0 : Int) < 99 by omega)
  have f0 := Int.emod_nonneg (b / 44) (show (2 : Int) ≠ 0 by omega)
  have f1 := Int.emod_lt_of_pos (b / 44) (show (0 : Int) < 2 by omega)
  -- the number of loads
  obtain ⟨m, hm, k1⟩ : ∃ m : Nat, m ≤ 60 ∧ ∀ E, (sIf (bTest (eOp gEq (eOp gMod (eCB gInt (eCons (eOp gDiv (eVar 1) (eC (.int 10))) (eNil))) (eC (.int 5))) (eC (.int 1)))) (sSet 2 (eOp gMod (eCB gInt (eCons (eOp gDiv (eVar 1) (eC (.int 50))) (eNil))) (eC (.int 61)))) (sNop)) [.val (.scr ns), .val (.int a), .val (.int (a % 10)), .un, .un, .un] = E → E = .nx [.val (.scr ns), .val (.int a), .val (.int (m : Int)), .un, .un, .un] := by
    by_cases h : a / 10 % 5 = 1
    · refine ⟨(a / 50 % 61).toNat, by omega, fun E hE => ?_⟩
      rw [← hE, Int.toNat_of_nonneg c0]
      simp [x1, x2, x3, x4, geq_int, h]
    · refine ⟨(a % 10).toNat, by omega, fun E hE => ?_⟩
      rw [← hE, Int.toNat_of_nonneg b0]
      simp [x1, x2, x3, x4, geq_int, h]
  obtain ⟨s, h2, h3, k2⟩ : ∃ s : Int, 2 ≤ s ∧ s ≤ 100 ∧ ∀ E, (sIf (bTest (eOp gEq (eOp gMod (eCB gInt (eCons (eOp gDiv (eVar 3) (eC (.int 11))) (eNil))) (eC (.int 4))) (eC (.int 1)))) (sSet 4 (eOp gIx (eL (oLst (eCons (eC (.int 100)) (eCons (eOp gAdd (eC (.int 2)) (eOp gMod (eCB gInt (eCons (eOp gDiv (eVar 3) (eC (.int 88))) (eNil))) (eC (.int 99)))) (eNil))))) (eOp gMod (eCB gInt (eCons (eOp gDiv (eVar 3) (eC (.int 44))) (eNil))) (eC (.int 2))))) (sNop)) [.val (.scr ns), .val (.int a), .val (.int (m : Int)), .val (.int b), .val (.int (2 + b % 11)), .un] = E → E = .nx [.val (.scr ns), .val (.int a), .val (.int (m : Int)), .val (.int b), .val (.int s), .un] := by
    by_cases h : b / 11 % 4 = 1
    · by_cases g : b / 44 % 2 = 0
      · refine ⟨100, by omega, by omega, fun E hE => ?_⟩
        rw [← hE]
        simp [x6, x7, x8, x9, x10, x11, geq_int, h, g]
      · have g : b / 44 % 2 = 1 := by omega
        refine ⟨2 + b / 88 % 99, by omega, by omega, fun E hE => ?_⟩
        rw [← hE]
        simp [x6, x7, x8, x9, x10, x11, geq_int, h, g]
    · refine ⟨2 + b % 11, by omega, by omega, fun E hE => ?_⟩
      rw [← hE]
      simp [x6, x7, x8, x9, x10, x11, geq_int, h]
  obtain ⟨ls, r1, r2, r3⟩ := key m s _ hm h2 h3 rfl
  refine ⟨ls, ?_, r2, r3⟩
  rw [← r1]
  simp only [m_seq]
  rw [show (sSet 1 (eCall 2 FD (eCons (eVar 0) (eCons (eC (.int 0)) (eNil))))) (startE 6 [.scr ns]) = .nx [.val (.scr ns), .val (.int a), .un, .un, .un, .un] by simp [startE, ha]]
  rw [then_nx, m_seq, show (sSet 2 (eOp gMod (eCB gInt (eCons (eVar 1) (eNil))) (eC (.int 10)))) [.val (.scr ns), .val (.int a), .un, .un, .un, .un] = .nx [.val (.scr ns), .val (.int a), .val (.int (a % 10)), .un, .un, .un] by simp [x0]]
  rw [then_nx, m_seq, k1 _ rfl]
  rw [then_nx, m_seq, show (sSet 3 (eCall 2 FD (eCons (eVar 0) (eCons (eC (.int 1)) (eNil))))) [.val (.scr ns), .val (.int a), .val (.int (m : Int)), .un, .un, .un] = .nx [.val (.scr ns), .val (.int a), .val (.int (m : Int)), .val (.int b), .un, .un] by simp [hb]]
  rw [then_nx, m_seq, show (sSet 4 (eOp gAdd (eC (.int 2)) (eOp gMod (eCB gInt (eCons (eVar 3) (eNil))) (eC (.int 11))))) [.val (.scr ns), .val (.int a), .val (.int (m : Int)), .val (.int b), .un, .un] = .nx [.val (.scr ns), .val (.int a), .val (.int (m : Int)), .val (.int b), .val (.int (2 + b % 11)), .un] by simp [x5]]
  rw [then_nx, m_seq, k2 _ rfl, then_nx]
end k40
namespace k40
open PySem L2 PL
theorem isi_of {d : Dt} {k n : String} {b : Bool} (h : kindOf d = some k) (e : kitB k n = some b) : gIsi [d, .ty n] = some (.bl b) := by
  show ((kindOf d).bind fun k => (kitB k n).map Dt.bl) = _
  rw [h]
  show (kitB k n).map Dt.bl = _
  rw [e]
  rfl
theorem isi_ib (i : Int) : gIsi [.int i, .ty "bool"] = some (.bl false) := isi_of rfl (by decide +kernel)
theorem isi_ii (i : Int) : gIsi [.int i, .ty "int"] = some (.bl true) := isi_of rfl (by decide +kernel)
theorem isi_bb (i : Bool) : gIsi [.bl i, .ty "bool"] = some (.bl true) := isi_of rfl (by decide +kernel)
theorem isi_bi (i : Bool) : gIsi [.bl i, .ty "int"] = some (.bl true) := isi_of rfl (by decide +kernel)
theorem isi_ll (l : List Dt) : gIsi [.lst l, .ty "list"] = some (.bl true) := isi_of rfl (by decide +kernel)
theorem isn_int (v lo hi : Int) : f_is_number [.int v, .int lo, .int hi] = .ok (.bl (decide (lo ≤ v) && decide (v ≤ hi))) := by
  unfold f_is_number
  rw [m_run]
  unfold b_is_number
  simp [startE, isi_ib, isi_ii]
  by_cases h : lo ≤ v <;> simp [h]
theorem isn_bl (v : Bool) (lo hi : Int) : f_is_number [.bl v, .int lo, .int hi] = .ok (.bl false) := by
  unfold f_is_number
  rw [m_run]
  unfold b_is_number
  simp [startE, isi_bb]
def ld (sp : List (Int × Int)) (k : Nat) : Int × Int := sp.getD k (0, 0)
theorem ix_load {sp : List (Int × Int)} {k : Nat} (h : k < sp.length) : atI (sp.map encP) (0 + (k : Int)) = some (encP (ld sp k)) := by
  rw [Int.zero_add, atI_ok (by simpa using h)]
  simp [ld, h]
theorem ix_load' {sp : List (Int × Int)} {k : Nat} (h : k < sp.length) : atI (sp.map encP) (k : Int) = some (encP (ld sp k)) := by
  rw [atI_ok (by simpa using h)]
  simp [ld, h]
def firstBad (sp : List (Int × Int)) : Option Nat := (List.range sp.length).find? fun k => !vld (ld sp k)
def chk (sp : List (Int × Int)) : Rs Dt := if 60 < sp.length then .err ⟨"TooMany", [("limit", .int 60)]⟩ else match firstBad sp with
  | some k => .err ⟨"BadLoad", [("at", nat k)]⟩
  | none => .ok .non
def dueD (sp : List (Int × Int)) : Dt := if 60 < sp.length then .tup [.str "TooMany", .int 60, .bl true] else match firstBad sp with
  | some k => .tup [.str "BadLoad", nat k, .bl true]
  | none => .tup [.str "none", .int 0, .bl false]
theorem find_some {α β : Type} (p : α → Bool) (f : α → β) : ∀ l : List α, (l.findSome? fun a => if p a = true then some (f a) else none) = (l.find? p).map f
  | [] => rfl
  | a :: l => by
    rw [List.findSome?_cons, List.find?_cons]
    by_cases h : p a = true
    · simp [h]
    · have h : p a = false := by simpa using h
      simp [h, find_some p f l]
theorem raise1 {c n : Str} {f : Ev → Rs Dt} {E : Ev} {d : Dt} (h : f E = .ok d) : sRaise c [n] (eCons f eNil) E = .er ⟨c, [(n, d)]⟩ E := by
  unfold sRaise
  rw [m_cons, h, Rs.bind_ok, m_nil, Rs.bind_ok, Rs.so_ok]
  rfl
theorem check_ok (sp : List (Int × Int)) (hs : sp.length ≤ 1000000) : f_check_loads [encL sp] = chk sp := by
  unfold f_check_loads
  rw [m_run]
  unfold b_check_loads
  have IN := isn_int
  generalize f_is_number = IS at *
  rw [m_seq]
  by_cases h60 : 60 < sp.length
  · have h : (60 : Int) < (sp.length : Int) := by omega
    rw [show sIf (bTest (eOp gGt (eCB gLen (eCons (eVar 0) (eNil))) (eC (.int 60)))) (sRaise "TooMany" ["limit"] (eCons (eC (.int 60)) (eNil))) (sNop) (startE 4 [encL sp]) = .er ⟨"TooMany", [("limit", .int 60)]⟩ (startE 4 [encL sp]) by
      rw [m_sif, show bTest (eOp gGt (eCB gLen (eCons (eVar 0) (eNil))) (eC (.int 60))) (startE 4 [encL sp]) = .ok true by simp [startE, h], Rs.so_ok, if_pos rfl, raise1 (m_c)]]
    rw [then_er, res_er]
    unfold chk
    rw [if_pos h60]
  · have h : ¬ (60 : Int) < (sp.length : Int) := by omega
    rw [show sIf (bTest (eOp gGt (eCB gLen (eCons (eVar 0) (eNil))) (eC (.int 60)))) (sRaise "TooMany" ["limit"] (eCons (eC (.int 60)) (eNil))) (sNop) (startE 4 [encL sp]) = .nx [.val (encL sp), .un, .un, .un] by
      rw [m_sif, show bTest (eOp gGt (eCB gLen (eCons (eVar 0) (eNil))) (eC (.int 60))) (startE 4 [encL sp]) = .ok false by simp [startE, h], Rs.so_ok]
      rfl]
    rw [then_nx, m_for]
    rw [show iR1 (eCons (eCB gLen (eCons (eVar 0) (eNil))) (eNil)) [.val (encL sp), .un, .un, .un] = .ok (rng 0 sp.length) by simp [kR1_nat hs]]
    rw [Rs.so_ok, rng0]
    have hL := forL_find (t := .one 1) (g := (sSeq (sTgt (.tup [2, 3]) (eOp gIx (eVar 0) (eVar 1))) (sIf (bOr (bNot (bTest (eCall 3 IS (eCons (eVar 2) (eCons (eC (.int 0)) (eCons (eC (.int 99)) (eNil))))))) (bOr (bNot (bTest (eCall 3 IS (eCons (eVar 3) (eCons (eC (.int 0)) (eCons (eC (.int 99)) (eNil))))))) (bTest (eOp gGe (eVar 2) (eVar 3))))) (sRaise "BadLoad" ["at"] (eCons (eVar 1) (eNil))) (sNop))))
      nat (fun k => if (!vld (ld sp k)) = true then some (Rs.err ⟨"BadLoad", [("at", nat k)]⟩) else none) (fun E => ∃ x y z, E = [.val (encL sp), x, y, z]) (List.range sp.length) [.val (encL sp), .un, .un, .un] ⟨_, _, _, rfl⟩ (by
        intro k hk E hE
        obtain ⟨x, y, z, rfl⟩ := hE
        have hk := List.mem_range.mp hk
        refine ⟨_, rfl, ?_⟩
        have e1 : sTgt (.tup [2, 3]) (eOp gIx (eVar 0) (eVar 1)) [.val (encL sp), .val (nat k), y, z] = .nx [.val (encL sp), .val (nat k), .val (.int (ld sp k).1), .val (.int (ld sp k).2)] := by
          simp only [nat, Int.zero_add]
          simp [ix_load' hk]
        show Ends1 _ _ ((sSeq _ _) [.val (encL sp), .val (nat k), y, z])
        rw [m_seq, e1, then_nx, m_sif]
        generalize ld sp k = p
        obtain ⟨b, l⟩ := p
        have e2 : bOr (bNot (bTest (eCall 3 IS (eCons (eVar 2) (eCons (eC (.int 0)) (eCons (eC (.int 99)) (eNil))))))) (bOr (bNot (bTest (eCall 3 IS (eCons (eVar 3) (eCons (eC (.int 0)) (eCons (eC (.int 99)) (eNil))))))) (bTest (eOp gGe (eVar 2) (eVar 3)))) [.val (encL sp), .val (nat k), .val (.int b), .val (.int l)] = .ok (!vld (b, l)) := by
          have e3 : (!vld (b, l)) = (decide (b < 0 ∨ 99 < b) || (decide (l < 0 ∨ 99 < l) || decide (l ≤ b))) := by
            unfold vld
            rw [Bool.eq_iff_iff]
            simp
            omega
          rw [e3]
          simp only [m_bOr, m_bNot, m_test, m_call, m_cons, m_nil, m_var, m_c, m_op]
          simp [IN]
          by_cases a1 : b < 0 ∨ 99 < b <;> by_cases a2 : l < 0 ∨ 99 < l <;> simp [a1, a2]
          simp only [not_or] at a1 a2
          simp [a1.1, a1.2, a2.1, a2.2]
        rw [e2, Rs.so_ok]
        cases hv : vld (b, l) with
        | true => exact ⟨_, ⟨_, _, _, rfl⟩, .inl rfl⟩
        | false =>
          simp only [Bool.not_false, if_true]
          rw [raise1 (f := eVar 1) (d := nat k) rfl]
          exact ⟨_, rfl⟩)
    rw [find_some] at hL
    unfold chk
    rw [if_neg h60]
    unfold firstBad
    cases hf : (List.range sp.length).find? fun k => !vld (ld sp k) with
    | none =>
      rw [hf] at hL
      obtain ⟨E2, _, e⟩ := hL
      rw [e]
      rfl
    | some k =>
      rw [hf] at hL
      obtain ⟨E2, e⟩ := hL
      rw [e]
      rfl
theorem due_ok (sp : List (Int × Int)) (hs : sp.length ≤ 1000000) : f__law_due [encL sp] = .ok (dueD sp) := by
  unfold f__law_due
  rw [m_run]
  unfold b__law_due
  rw [m_seq]
  by_cases h60 : 60 < sp.length
  · have h : (60 : Int) < (sp.length : Int) := by omega
    rw [m_sif, show bTest (eOp gGt (eCB gLen (eCons (eVar 0) (eNil))) (eC (.int 60))) (startE 2 [encL sp]) = .ok true by simp [startE, h], Rs.so_ok, if_pos rfl]
    unfold dueD
    rw [if_pos h60]
    simp
  · have h : ¬ (60 : Int) < (sp.length : Int) := by omega
    rw [m_sif, show bTest (eOp gGt (eCB gLen (eCons (eVar 0) (eNil))) (eC (.int 60))) (startE 2 [encL sp]) = .ok false by simp [startE, h], Rs.so_ok]
    rw [show (if false = true then sRet (eTup (eCons (eC (.str "TooMany")) (eCons (eC (.int 60)) (eCons (eC (.bl true)) (eNil))))) (startE 2 [encL sp]) else sNop (startE 2 [encL sp])) = .nx [.val (encL sp), .un] from rfl]
    rw [then_nx, m_seq, m_for]
    rw [show iR1 (eCons (eCB gLen (eCons (eVar 0) (eNil))) (eNil)) [.val (encL sp), .un] = .ok (rng 0 sp.length) by simp [kR1_nat hs]]
    rw [Rs.so_ok, rng0]
    have hL := forL_find (t := .one 1) (g := (sIf (bOr (bTest (eOp gLt (eOp gIx (eOp gIx (eVar 0) (eVar 1)) (eC (.int 0))) (eC (.int 0)))) (bOr (bTest (eOp gGt (eOp gIx (eOp gIx (eVar 0) (eVar 1)) (eC (.int 1))) (eC (.int 99)))) (bTest (eOp gGe (eOp gIx (eOp gIx (eVar 0) (eVar 1)) (eC (.int 0))) (eOp gIx (eOp gIx (eVar 0) (eVar 1)) (eC (.int 1))))))) (sRet (eTup (eCons (eC (.str "BadLoad")) (eCons (eVar 1) (eCons (eC (.bl true)) (eNil)))))) (sNop)))
      nat (fun k => if (!vld (ld sp k)) = true then some (Rs.ok (.tup [.str "BadLoad", nat k, .bl true])) else none) (fun E => ∃ x, E = [.val (encL sp), x]) (List.range sp.length) [.val (encL sp), .un] ⟨_, rfl⟩ (by
        intro k hk E hE
        obtain ⟨x, rfl⟩ := hE
        have hk := List.mem_range.mp hk
        refine ⟨_, rfl, ?_⟩
        have e1 : eOp gIx (eVar 0) (eVar 1) [.val (encL sp), .val (nat k)] = .ok (encP (ld sp k)) := by
          simp only [nat, Int.zero_add]
          simp [ix_load' hk]
        show Ends1 _ _ ((sIf _ _ _) [.val (encL sp), .val (nat k)])
        rw [m_sif]
        generalize eOp gIx (eVar 0) (eVar 1) = IX at *
        generalize ld sp k = p at *
        obtain ⟨b, l⟩ := p
        have e2 : (bOr (bTest (eOp gLt (eOp gIx IX (eC (.int 0))) (eC (.int 0)))) (bOr (bTest (eOp gGt (eOp gIx IX (eC (.int 1))) (eC (.int 99)))) (bTest (eOp gGe (eOp gIx IX (eC (.int 0))) (eOp gIx IX (eC (.int 1))))))) [.val (encL sp), .val (nat k)] = .ok (!vld (b, l)) := by
          have e3 : (!vld (b, l)) = (decide (b < 0) || (decide (99 < l) || decide (l ≤ b))) := by
            unfold vld
            rw [Bool.eq_iff_iff]
            simp
            omega
          rw [e3]
          simp only [m_bOr, m_test, m_c, m_op, e1, Rs.bind_ok, g_ixT, ix2_0, ix2_1, Rs.of_some, g_lt, g_gt, g_ge, tBl_bl]
          by_cases a1 : b < 0 <;> by_cases a2 : 99 < l <;> by_cases a3 : l ≤ b <;> simp [a1, a2, a3]
        rw [e2, Rs.so_ok]
        cases hv : vld (b, l) with
        | true => exact ⟨_, ⟨_, rfl⟩, .inl rfl⟩
        | false =>
          simp only [Bool.not_false, if_true]
          simp [Ends1])
    rw [find_some] at hL
    unfold dueD
    rw [if_neg h60]
    unfold firstBad
    cases hf : (List.range sp.length).find? fun k => !vld (ld sp k) with
    | none =>
      rw [hf] at hL
      obtain ⟨E2, _, e⟩ := hL
      rw [e]
      simp
    | some k =>
      rw [hf] at hL
      have e := hL
      have e : forL _ _ _ _ = So.rt _ := hL
      rw [e]
      rfl
end k40
namespace k40
open PySem L2 PL
/-! ### a datum equals itself -/
mutual
def plainD : Dt → Bool
  | .non => true
  | .bl _ => true
  | .int _ => true
  | .str x => PyData.strOk x
  | .lst l => plainDL l
  | .tup l => plainDL l
  | .scr _ => false
  | .ty _ => false
def plainDL : List Dt → Bool
  | [] => true
  | d :: ds => plainD d && plainDL ds
end
mutual
theorem plain_lay : ∀ d : Dt, plainD d = true → (toPy d).canLay0 = true
  | .non, _ => by simp [toPy, PyData.canLay0]
  | .bl _, _ => by simp [toPy, PyData.canLay0]
  | .int _, _ => by simp [toPy, PyData.canLay0]
  | .str x, h => by
    have h : PyData.strOk x = true := by simpa [plainD] using h
    simp [toPy, PyData.canLay0, h]
  | .lst l, h => by
    have h : plainDL l = true := by simpa [plainD] using h
    simpa [toPy, PyData.canLay0] using plain_layL l h
  | .tup l, h => by
    have h : plainDL l = true := by simpa [plainD] using h
    simpa [toPy, PyData.canLay0] using plain_layL l h
  | .scr _, h => by simp [plainD] at h
  | .ty _, h => by simp [plainD] at h
theorem plain_layL : ∀ l : List Dt, plainDL l = true → PyData.canLayAll0 (toPyL l) = true
  | [], _ => by simp [toPyL, PyData.canLayAll0]
  | d :: ds, h => by
    have h : plainD d = true ∧ plainDL ds = true := by simpa [plainDL] using h
    simp [toPyL, PyData.canLayAll0, plain_lay d h.1, plain_layL ds h.2]
end
theorem eqb_self {d : Dt} (h : plainD d = true) : eqb d d = true := PySem.SeqAt.eqv_refl _ (plain_lay d h)
theorem gne_self {d : Dt} (h : plainD d = true) (c : cmpOk 60 d = true) : gNe d d = some (.bl false) := by
  show (if cmpOk 60 d = true ∧ cmpOk 60 d = true then some (Dt.bl (!eqb d d)) else none) = _
  rw [if_pos ⟨c, c⟩, eqb_self h]
  rfl
theorem plainDL_of : ∀ {l : List Dt}, (∀ d ∈ l, plainD d = true) → plainDL l = true
  | [], _ => by simp [plainDL]
  | d :: ds, h => by
    rw [plainDL, h d List.mem_cons_self, plainDL_of fun x hx => h x (List.mem_cons_of_mem _ hx)]
    rfl
theorem cmpL_of {n : Nat} : ∀ {l : List Dt}, (∀ d ∈ l, cmpOk n d = true) → cmpOkL n l = true
  | [], _ => by simp [cmpOkL]
  | d :: ds, h => by
    rw [cmpOkL, h d List.mem_cons_self, cmpL_of fun x hx => h x (List.mem_cons_of_mem _ hx)]
    rfl
/-! ### crossing -/
def crs (p q : Int × Int) : Bool := if p.1 < q.1 then decide (q.1 < p.2) && decide (p.2 < q.2) else decide (q.1 < p.1) && (decide (p.1 < q.2) && decide (q.2 < p.2))
theorem do_ok (p q : Int × Int) : f_do_cross [encP p, encP q] = .ok (.bl (crs p q)) := by
  unfold f_do_cross
  rw [m_run]
  unfold b_do_cross crs
  simp [startE]
  by_cases h : p.1 < q.1
  · simp [h]
    by_cases h2 : q.1 < p.2 <;> simp [h2]
  · simp [h]
    by_cases h2 : q.1 < p.1 <;> by_cases h3 : p.1 < q.2 <;> simp [h2, h3]
theorem lt_ints (a b : Int) : PySem.W.dataLt (.int a) (.int b) = decide (a < b) := by
  simp [PySem.W.dataLt, PySem.W.keyToks, PyProof.Rows.lexLt, PyProof.Rows.itemOrd, PyProof.Rows.itemLt]
theorem ltP (p q : Int × Int) : ltD (encP p) (encP q) = (decide (p.1 < q.1) || (decide (p.1 = q.1) && decide (p.2 < q.2))) := by
  have e : ltD (encP p) (encP q) = PySem.W.dataLt (.tuple [.int p.1, .int p.2]) (.tuple [.int q.1, .int q.2]) := by
    simp [ltD, toPy, toPyL]
  rw [e, Bool.eq_iff_iff]
  simp [PySem.W.dataLt, PySem.W.keyToks, PySem.W.keyToksAll, PyProof.Rows.lexLt, PyProof.Rows.itemOrd, PyProof.Rows.itemLt]
  omega
theorem pairP (p q : Int × Int) : pairOk (encP p) (encP q) = true := by
  simp [pairOk, cmpOk, cmpOkL, toPy, toPyL, PySem.W.alike, PySem.W.alikeAll, isNon]
theorem gminP (p q : Int × Int) : gMinD [encP p, encP q] = some (encP (if q.1 < p.1 ∨ q.1 = p.1 ∧ q.2 < p.2 then q else p)) := by
  show (if pairOk (encP p) (encP q) = true then some (if ltD (encP q) (encP p) = true then encP q else encP p) else none) = _
  rw [if_pos (pairP p q), ltP]
  by_cases h : q.1 < p.1 ∨ q.1 = p.1 ∧ q.2 < p.2
  · rw [if_pos h, if_pos (by simpa using h)]
  · rw [if_neg h, if_neg (by simpa using h)]
theorem gmaxP (p q : Int × Int) : gMaxD [encP p, encP q] = some (encP (if p.1 < q.1 ∨ p.1 = q.1 ∧ p.2 < q.2 then q else p)) := by
  show (if pairOk (encP p) (encP q) = true then some (if ltD (encP p) (encP q) = true then encP q else encP p) else none) = _
  rw [if_pos (pairP p q), ltP]
  by_cases h : p.1 < q.1 ∨ p.1 = q.1 ∧ p.2 < q.2
  · rw [if_pos h, if_pos (by simpa using h)]
  · rw [if_neg h, if_neg (by simpa using h)]
theorem cross_ok (p q : Int × Int) : f__law_cross [encP p, encP q] = .ok (.bl (crs p q)) := by
  unfold f__law_cross
  rw [m_run]
  unfold b__law_cross
  have s1 : sSet 2 (eCB gMinD (eCons (eVar 0) (eCons (eVar 1) (eNil)))) (startE 4 [encP p, encP q]) = .nx [.val (encP p), .val (encP q), .val (encP (if q.1 < p.1 ∨ q.1 = p.1 ∧ q.2 < p.2 then q else p)), .un] := by
    have := gminP p q
    simp only [m_set, m_cb, m_cons, m_nil, m_var, startE, List.map_cons, List.map_nil, List.length_cons, List.length_nil, List.replicate, List.cons_append, List.nil_append, List.getElem?_cons_zero, List.getElem?_cons_succ, Rs.bind_ok, this, Rs.of_some, Rs.so_ok]
    rfl
  have s2 : ∀ x, sSet 3 (eCB gMaxD (eCons (eVar 0) (eCons (eVar 1) (eNil)))) [.val (encP p), .val (encP q), x, .un] = .nx [.val (encP p), .val (encP q), x, .val (encP (if p.1 < q.1 ∨ p.1 = q.1 ∧ p.2 < q.2 then q else p))] := by
    intro x
    have := gmaxP p q
    simp only [m_set, m_cb, m_cons, m_nil, m_var, List.getElem?_cons_zero, List.getElem?_cons_succ, Rs.bind_ok, this, Rs.of_some, Rs.so_ok]
    rfl
  rw [m_seq, s1, then_nx, m_seq, s2, then_nx]
  obtain ⟨a, b⟩ := p
  obtain ⟨c, d⟩ := q
  unfold crs
  simp only
  by_cases h1 : a < c
  · have n1 : ¬ (c < a ∨ c = a ∧ d < b) := by omega
    have n2 : a < c ∨ a = c ∧ b < d := by omega
    rw [if_neg n1, if_pos n2, if_pos h1]
    by_cases h2 : c < b <;> simp [h1, h2]
  · rw [if_neg h1]
    by_cases h3 : c < a
    · have n1 : c < a ∨ c = a ∧ d < b := by omega
      have n2 : ¬ (a < c ∨ a = c ∧ b < d) := by omega
      rw [if_pos n1, if_neg n2]
      by_cases h2 : a < d <;> simp [h3, h2]
    · have e : a = c := by omega
      subst e
      have z : ∀ x y : Int × Int, x.1 = a → y.1 = a → (sRet (eAnd (eOp gLt (eOp gIx (eVar 2) (eC (.int 0))) (eOp gIx (eVar 3) (eC (.int 0)))) (eAnd (eOp gLt (eOp gIx (eVar 3) (eC (.int 0))) (eOp gIx (eVar 2) (eC (.int 1)))) (eOp gLt (eOp gIx (eVar 2) (eC (.int 1))) (eOp gIx (eVar 3) (eC (.int 1)))))) [.val (encP (a, b)), .val (encP (a, d)), .val (encP x), .val (encP y)]).res = .ok (.bl false) := by
        intro x y hx hy
        simp [hx, hy]
      rw [z _ _ (by split <;> rfl) (by split <;> rfl)]
      simp
/-! ### the pairs -/
def inner (K : Nat → Nat → Bool) (n i : Nat) (b : List Dt) : List Dt := (List.range' (i + 1) (n - (i + 1))).foldl (fun b j => if K i j = true then b ++ [.tup [nat i, nat j]] else b) b
def outer (K : Nat → Nat → Bool) (n : Nat) : List Dt := (List.range n).foldl (fun b i => inner K n i b) []
theorem forL_foldN {α β : Type} {t : Tg} {g : Ev → So} (enc : α → Dt) (f : β → α → β) (C : Nat → β → Ev → Prop) :
    ∀ (as : List α) (n : Nat) (b : β) (E : Ev), C n b E → (∀ a ∈ as, ∀ m b E, n ≤ m → m < n + as.length → C m b E → ∃ E1 E2, t.go (enc a) E = some E1 ∧ (g E1 = .nx E2 ∨ g E1 = .ct E2) ∧ C (m + 1) (f b a) E2) → ∃ E2, C (n + as.length) (as.foldl f b) E2 ∧ forL t g (as.map enc) E = .nx E2
  | [], n, b, E, hE, _ => ⟨E, hE, rfl⟩
  | a :: as, n, b, E, hE, h => by
    obtain ⟨E1, E2, e1, h1, h2⟩ := h a List.mem_cons_self n b E (Nat.le_refl _) (by simp) hE
    obtain ⟨E3, h3, e3⟩ := forL_foldN enc f C as (n + 1) (f b a) E2 h2 fun c hc m b E hm hm2 => h c (List.mem_cons_of_mem _ hc) m b E (by omega) (by simp; omega)
    refine ⟨E3, ?_, ?_⟩
    · rw [show n + (a :: as).length = n + 1 + as.length by simp; omega]
      exact h3
    · show (match t.go (enc a) E with | none => So.bad | some E1 => turn (g E1) (forL t g (as.map enc))) = _
      rw [e1]
      show turn (g E1) (forL t g (as.map enc)) = _
      rcases h1 with e | e <;> rw [e] <;> exact e3
def ne (s : Sl) : Prop := noExc [s] = true
theorem pairs_loop (K : Nat → Nat → Bool) (n i1 i2 : Nat) (hn : n ≤ 60) (mk : List Dt → Sl → Sl → Ev) (fi : Ev → Rs (List Dt)) (g : Ev → So)
    (h1 : ∀ b x y d, (mk b x y).set i1 (.val d) = mk b (.val d) y) (h2 : ∀ b x y d, (mk b x y).set i2 (.val d) = mk b x (.val d))
    (h3 : ∀ b i y, i < n → fi (mk b (.val (nat i)) y) = .ok ((List.range' (i + 1) (n - (i + 1))).map nat))
    (h4 : ∀ b i j, i < n → j < n → b.length < 1000000 → g (mk b (.val (nat i)) (.val (nat j))) = .nx (mk (if K i j = true then b ++ [.tup [nat i, nat j]] else b) (.val (nat i)) (.val (nat j)))) (x0 y0 : Sl) (hx0 : ne x0) (hy0 : ne y0) :
    ∃ x y, (ne x ∧ ne y) ∧ forL (.one i1) (sFor fi (.one i2) g) (rng 0 n) (mk [] x0 y0) = .nx (mk (outer K n) x y) := by
  rw [rng0]
  have := forL_foldN (t := .one i1) (g := sFor fi (.one i2) g) nat (fun b i => inner K n i b) (fun m b E => b.length ≤ m * 60 ∧ ∃ x y, (ne x ∧ ne y) ∧ E = mk b x y) (List.range n) 0 [] (mk [] x0 y0) ⟨by simp, _, _, ⟨hx0, hy0⟩, rfl⟩ (by
    intro i hi m b E _ hm ⟨hb, x, y, ⟨hx, hy⟩, hE⟩
    subst hE
    have hi := List.mem_range.mp hi
    rw [List.length_range] at hm
    have := forL_foldN (t := .one i2) (g := g) nat (fun b j => if K i j = true then b ++ [.tup [nat i, nat j]] else b) (fun k b' E => b'.length ≤ m * 60 + k ∧ ∃ y, ne y ∧ E = mk b' (.val (nat i)) y) (List.range' (i + 1) (n - (i + 1))) 0 b (mk b (.val (nat i)) y) ⟨by omega, _, hy, rfl⟩ (by
      intro j hj k b' E _ hk ⟨hb', y', _, hE⟩
      subst hE
      have hj := List.mem_range'_1.mp hj
      rw [List.length_range'] at hk
      refine ⟨_, mk (if K i j = true then b' ++ [.tup [nat i, nat j]] else b') (.val (nat i)) (.val (nat j)), rfl, .inl ?_, ?_, .val (nat j), (show ne (.val (nat j)) from (rfl : noExc [Sl.val (nat j)] = true)), rfl⟩
      · rw [h2]
        exact h4 b' i j hi (by omega) (by omega)
      · split
        · simp; omega
        · omega)
    obtain ⟨E2, ⟨hl, y2, hy2, rfl⟩, e⟩ := this
    rw [List.length_range'] at hl
    refine ⟨_, mk (inner K n i b) (.val (nat i)) y2, rfl, .inl ?_, ?_, .val (nat i), y2, ⟨(show ne (.val (nat i)) from (rfl : noExc [Sl.val (nat i)] = true)), hy2⟩, rfl⟩
    · rw [h1, m_for, h3 b i y hi, Rs.so_ok]
      exact e
    · show (inner K n i b).length ≤ _
      have hl : (inner K n i b).length ≤ m * 60 + (0 + (n - (i + 1))) := hl
      omega)
  obtain ⟨E2, ⟨_, x, y, hxy, rfl⟩, e⟩ := this
  exact ⟨x, y, hxy, e⟩
theorem pairs_ok (ls : List (Int × Int)) (hn : ls.length ≤ 60) (hv : chk ls = .ok .non) : f_crossing_pairs [encL ls] = .ok (.lst (outer (fun i j => crs (ld ls i) (ld ls j)) ls.length)) := by
  unfold f_crossing_pairs
  rw [m_run]
  unfold b_crossing_pairs
  have CK := check_ok ls (by omega)
  rw [hv] at CK
  have DO := do_ok
  generalize f_check_loads = FC at *
  generalize f_do_cross = FD at *
  rw [m_seq, show sDrop (eCall 1 FC (eCons (eVar 0) (eNil))) (startE 4 [encL ls]) = .nx [.val (encL ls), .un, .un, .un] by simp [startE, CK]]
  rw [then_nx, m_seq, show sOwn 1 (oLst (eNil)) [.val (encL ls), .un, .un, .un] = .nx [.val (encL ls), .own [], .un, .un] by simp]
  rw [then_nx, m_seq, m_for, show iR1 (eCons (eCB gLen (eCons (eVar 0) (eNil))) (eNil)) [.val (encL ls), .own [], .un, .un] = .ok (rng 0 ls.length) by simp [kR1_nat (show ls.length ≤ 1000000 by omega)], Rs.so_ok]
  obtain ⟨x, y, _, e⟩ := pairs_loop (fun i j => crs (ld ls i) (ld ls j)) ls.length 2 3 hn (fun b x y => [.val (encL ls), .own b, x, y]) (iR2 (eCons (eOp gAdd (eVar 2) (eC (.int 1))) (eCons (eCB gLen (eCons (eVar 0) (eNil))) (eNil)))) (sIf (bTest (eCall 2 FD (eCons (eOp gIx (eVar 0) (eVar 2)) (eCons (eOp gIx (eVar 0) (eVar 3)) (eNil))))) (sApp 1 (eTup (eCons (eVar 2) (eCons (eVar 3) (eNil))))) (sNop))
    (fun _ _ _ _ => rfl) (fun _ _ _ _ => rfl) (fun b i y hi => by
      rw [nat_eq]
      have := kR2_nat (a := i + 1) (n := ls.length) (by omega) (by omega)
      rw [show ((i + 1 : Nat) : Int) = (i : Int) + 1 by omega] at this
      simp [this]) (fun b i j hi hj hb => by
      rw [nat_eq, nat_eq]
      simp only [m_sif, m_test, m_call, m_cons, m_op, m_var, m_nil]
      simp [ix_load' hi, ix_load' hj, DO]
      by_cases h : crs (ld ls i) (ld ls j) = true
      · simp [h, sApp, hb]
      · simp [h]) .un .un rfl rfl
  rw [e, then_nx]
  rfl
end k40
namespace k40
open PySem L2 PL
theorem isint_i (v : Int) : f__law_is_integer [.int v] = .ok (.bl true) := by
  unfold f__law_is_integer
  rw [m_run]
  unfold b__law_is_integer
  simp [startE, isi_ii, isi_ib]
theorem isint_b (v : Bool) : f__law_is_integer [.bl v] = .ok (.bl false) := by
  unfold f__law_is_integer
  rw [m_run]
  unfold b__law_is_integer
  simp [startE, isi_bi, isi_bb]
def isPair (d : Dt) : Prop := ∃ i j : Int, d = .tup [.int i, .int j]
theorem inner_mem {K : Nat → Nat → Bool} {n i : Nat} {b : List Dt} (h : ∀ d ∈ b, isPair d) : ∀ d ∈ inner K n i b, isPair d := by
  unfold inner
  generalize List.range' (i + 1) (n - (i + 1)) = js
  induction js generalizing b with
  | nil => exact h
  | cons j js ih =>
    rw [List.foldl_cons]
    refine ih ?_
    split
    · intro d hd
      rcases List.mem_append.mp hd with hd | hd
      · exact h d hd
      · cases List.mem_singleton.mp hd
        exact ⟨_, _, rfl⟩
    · exact h
theorem outer_mem {K : Nat → Nat → Bool} {n : Nat} : ∀ d ∈ outer K n, isPair d := by
  unfold outer
  have : ∀ (l : List Nat) (b : List Dt), (∀ d ∈ b, isPair d) → ∀ d ∈ l.foldl (fun b i => inner K n i b) b, isPair d := by
    intro l
    induction l with
    | nil => exact fun b h => h
    | cons i l ih => exact fun b h => ih _ (inner_mem h)
  exact this _ _ (fun d hd => by cases hd)
theorem pair_plain {d : Dt} (h : isPair d) : plainD d = true := by
  obtain ⟨i, j, rfl⟩ := h
  simp [plainD, plainDL]
theorem pair_cmp {d : Dt} (h : isPair d) : cmpOk 59 d = true := by
  obtain ⟨i, j, rfl⟩ := h
  simp [cmpOk, cmpOkL]
theorem encL_pair (ls : List (Int × Int)) : ∀ d ∈ ls.map encP, isPair d := by
  intro d hd
  obtain ⟨p, _, rfl⟩ := List.mem_map.mp hd
  exact ⟨_, _, rfl⟩
theorem lst_self {l : List Dt} (h : ∀ d ∈ l, isPair d) : gNe (.lst l) (.lst l) = some (.bl false) := by
  refine gne_self ?_ ?_
  · rw [plainD]
    exact plainDL_of fun d hd => pair_plain (h d hd)
  · rw [cmpOk]
    exact cmpL_of fun d hd => pair_cmp (h d hd)
theorem outer_len {K : Nat → Nat → Bool} {n : Nat} (hn : n ≤ 60) : (outer K n).length ≤ 3600 := by
  have i1 : ∀ (i : Nat) (js : List Nat) (b : List Dt), (js.foldl (fun b j => if K i j = true then b ++ [.tup [nat i, nat j]] else b) b).length ≤ b.length + js.length := by
    intro i js
    induction js with
    | nil => intro b; simp
    | cons j js ih =>
      intro b
      rw [List.foldl_cons]
      refine Nat.le_trans (ih _) ?_
      split <;> simp <;> omega
  have i2 : ∀ (l : List Nat) (b : List Dt), (l.foldl (fun b i => inner K n i b) b).length ≤ b.length + l.length * 60 := by
    intro l
    induction l with
    | nil => intro b; simp
    | cons i l ih =>
      intro b
      rw [List.foldl_cons]
      refine Nat.le_trans (ih _) ?_
      have := i1 i (List.range' (i + 1) (n - (i + 1))) b
      rw [List.length_range'] at this
      show (inner K n i b).length + _ ≤ _
      have this : (inner K n i b).length ≤ b.length + (n - (i + 1)) := this
      simp
      omega
  have := i2 (List.range n) []
  unfold outer
  rw [List.length_range] at this
  simp at this
  omega
theorem chk_ok {ls : List (Int × Int)} (hn : ls.length ≤ 60) (hv : ∀ p ∈ ls, vld p = true) : chk ls = .ok .non := by
  unfold chk
  rw [if_neg (by omega)]
  have : firstBad ls = none := by
    unfold firstBad
    rw [List.find?_eq_none]
    intro k hk
    have hk := List.mem_range.mp hk
    have : ld ls k ∈ ls := by
      unfold ld
      rw [List.getD_eq_getElem?_getD, List.getElem?_eq_getElem hk]
      exact List.getElem_mem hk
    rw [hv _ this]
    simp
  rw [this]
theorem pright_ok (ls : List (Int × Int)) (hn : ls.length ≤ 60) (hv : ∀ p ∈ ls, vld p = true) : f__law_pairs_right [encL ls] = .ok (.bl true) := by
  unfold f__law_pairs_right
  rw [m_run]
  unfold b__law_pairs_right
  have CP := pairs_ok ls hn (chk_ok hn hv)
  have CR := cross_ok
  have II := isint_i
  have hm := outer_mem (K := fun i j => crs (ld ls i) (ld ls j)) (n := ls.length)
  have hlen := outer_len (K := fun i j => crs (ld ls i) (ld ls j)) hn
  generalize f_crossing_pairs = FC at *
  generalize f__law_cross = FX at *
  generalize f__law_is_integer = FI at *
  rw [m_seq, show sSet 1 (eL (oCB gList (eCons (eVar 0) (eNil)))) (startE 7 [encL ls]) = .nx [.val (encL ls), .val (encL ls), .un, .un, .un, .un, .un] by simp [startE]]
  rw [then_nx, m_seq, show sSet 2 (eCall 1 FC (eCons (eVar 1) (eNil))) [.val (encL ls), .val (encL ls), .un, .un, .un, .un, .un] = .nx [.val (encL ls), .val (encL ls), .val (.lst (outer (fun i j => crs (ld ls i) (ld ls j)) ls.length)), .un, .un, .un, .un] by simp [CP]]
  have LP : ∃ x y, (ne x ∧ ne y) ∧ forL (.one 4) (sFor (iR2 (eCons (eOp gAdd (eVar 4) (eC (.int 1))) (eCons (eCB gLen (eCons (eVar 0) (eNil))) (eNil)))) (.one 5) (sIf (bTest (eCall 2 FX (eCons (eOp gIx (eVar 0) (eVar 4)) (eCons (eOp gIx (eVar 0) (eVar 5)) (eNil))))) (sApp 3 (eTup (eCons (eVar 4) (eCons (eVar 5) (eNil))))) (sNop))) (rng 0 ls.length) [.val (encL ls), .val (encL ls), .val (.lst (outer (fun i j => crs (ld ls i) (ld ls j)) ls.length)), .own [], .un, .un, .un] = .nx [.val (encL ls), .val (encL ls), .val (.lst (outer (fun i j => crs (ld ls i) (ld ls j)) ls.length)), .own (outer (fun i j => crs (ld ls i) (ld ls j)) ls.length), x, y, .un] := by
    exact pairs_loop (fun i j => crs (ld ls i) (ld ls j)) ls.length 4 5 hn (fun b x y => [.val (encL ls), .val (encL ls), .val (.lst (outer (fun i j => crs (ld ls i) (ld ls j)) ls.length)), .own b, x, y, .un]) (iR2 (eCons (eOp gAdd (eVar 4) (eC (.int 1))) (eCons (eCB gLen (eCons (eVar 0) (eNil))) (eNil)))) (sIf (bTest (eCall 2 FX (eCons (eOp gIx (eVar 0) (eVar 4)) (eCons (eOp gIx (eVar 0) (eVar 5)) (eNil))))) (sApp 3 (eTup (eCons (eVar 4) (eCons (eVar 5) (eNil))))) (sNop))
      (fun _ _ _ _ => rfl) (fun _ _ _ _ => rfl) (fun b i y hi => by
        rw [nat_eq]
        have := kR2_nat (a := i + 1) (n := ls.length) (by omega) (by omega)
        rw [show ((i + 1 : Nat) : Int) = (i : Int) + 1 by omega] at this
        simp [this]) (fun b i j hi hj hb => by
        rw [nat_eq, nat_eq]
        simp only [m_sif, m_test, m_call, m_cons, m_op, m_var, m_nil]
        simp [ix_load' hi, ix_load' hj, CR]
        by_cases h : crs (ld ls i) (ld ls j) = true
        · simp [h, sApp, hb]
        · simp [h]) .un .un rfl rfl
  generalize outer (fun i j => crs (ld ls i) (ld ls j)) ls.length = L at *
  rw [then_nx, m_seq, show sOwn 3 (oLst (eNil)) [.val (encL ls), .val (encL ls), .val (.lst L), .un, .un, .un, .un] = .nx [.val (encL ls), .val (encL ls), .val (.lst L), .own [], .un, .un, .un] by simp]
  rw [then_nx, m_seq, m_for, show iR1 (eCons (eCB gLen (eCons (eVar 0) (eNil))) (eNil)) [.val (encL ls), .val (encL ls), .val (.lst L), .own [], .un, .un, .un] = .ok (rng 0 ls.length) by simp [kR1_nat (show ls.length ≤ 1000000 by omega)], Rs.so_ok]
  obtain ⟨x, y, ⟨hx, hy⟩, e⟩ := LP
  rw [e, then_nx, m_seq, show sFz 3 [.val (encL ls), .val (encL ls), .val (.lst L), .own L, x, y, .un] = .nx [.val (encL ls), .val (encL ls), .val (.lst L), .val (.lst L), x, y, .un] from rfl]
  rw [then_nx, m_seq, m_sif, show bOr (bNot (bTest (eCB gIsi (eCons (eVar 2) (eCons (eC (.ty "list")) (eNil)))))) (bOr (bTest (eOp gNe (eVar 2) (eVar 3))) (bTest (eOp gNe (eVar 1) (eVar 0)))) [.val (encL ls), .val (encL ls), .val (.lst L), .val (.lst L), x, y, .un] = .ok false by
    have g1 := lst_self hm
    have g2 := lst_self (encL_pair ls)
    simp [isi_ll, g1, g2], Rs.so_ok]
  rw [show (if false = true then sRet (eC (.bl false)) [.val (encL ls), .val (encL ls), .val (.lst L), .val (.lst L), x, y, .un] else sNop [.val (encL ls), .val (encL ls), .val (.lst L), .val (.lst L), x, y, .un]) = .nx [.val (encL ls), .val (encL ls), .val (.lst L), .val (.lst L), x, y, .un] from rfl, then_nx]
  have e2 := lc_eq (fi := iL (eVar 2)) (own := [6]) (t := .one 6) (ft := (bOr (bNot (bTest (eCall 1 FI (eCons (eOp gIx (eVar 6) (eC (.int 0))) (eNil))))) (bNot (bTest (eCall 1 FI (eCons (eOp gIx (eVar 6) (eC (.int 1))) (eNil))))))) (fe := eVar 6) (E := [.val (encL ls), .val (encL ls), .val (.lst L), .val (.lst L), x, y, .un]) (ds := L) (r := []) (by simp) (by omega) (by
      have hx : noExc [x] = true := hx
      have hy : noExc [y] = true := hy
      cases x <;> cases y <;> first | rfl | (cases hx; done) | (cases hy; done)) (by
      have := lcR_map (t := .one 6) (ft := (bOr (bNot (bTest (eCall 1 FI (eCons (eOp gIx (eVar 6) (eC (.int 0))) (eNil))))) (bNot (bTest (eCall 1 FI (eCons (eOp gIx (eVar 6) (eC (.int 1))) (eNil))))))) (fe := eVar 6) (E := wipeE [.val (encL ls), .val (encL ls), .val (.lst L), .val (.lst L), x, y, .un] [6]) id (fun _ => false) id L (fun d hd => by
        obtain ⟨i, j, rfl⟩ := hm d hd
        refine ⟨_, rfl, ?_, fun z => by cases z⟩
        simp [wipeE, II])
      rw [List.map_id, show L.filter (fun _ => false) = [] from List.filter_eq_nil_iff.mpr fun _ _ => Bool.false_ne_true] at this
      exact this)
  rw [m_ret, m_op, m_cb, m_cons, m_L, e2]
  simp [geq_int]
/-! ### crosses -/
theorem crs_symm (p q : Int × Int) : crs q p = crs p q := by
  unfold crs
  by_cases h : p.1 < q.1
  · have h' : ¬ q.1 < p.1 := by omega
    simp [h, h']
  · by_cases h' : q.1 < p.1
    · simp [h, h']
    · simp [h, h']
theorem crosses_ok (p q : Int × Int) (hp : vld p = true) (hq : vld q = true) : f_crosses [encP p, encP q] = .ok (.bl (crs p q)) := by
  unfold f_crosses
  rw [m_run]
  unfold b_crosses
  have CK := check_ok [p, q] (by simp)
  rw [chk_ok (by simp) (by simp [hp, hq])] at CK
  have CK : f_check_loads [.lst [encP p, encP q]] = .ok .non := CK
  have DO := do_ok
  generalize f_check_loads = FC at *
  generalize f_do_cross = FD at *
  simp [startE, CK, DO]
theorem bad0 (p q : Int × Int) (hp : vld p = false) : chk [p, q] = .err ⟨"BadLoad", [("at", nat 0)]⟩ := by
  unfold chk firstBad
  simp [List.range, List.range.loop, ld, hp]
theorem bad1 (p q : Int × Int) (hp : vld p = true) (hq : vld q = false) : chk [p, q] = .err ⟨"BadLoad", [("at", nat 1)]⟩ := by
  unfold chk firstBad
  simp [List.range, List.range.loop, ld, hp, hq]
theorem refused_ok (p q : Int × Int) (k : Nat) (h : chk [p, q] = .err ⟨"BadLoad", [("at", nat k)]⟩) : f__law_refused_at [encP p, encP q] = .ok (nat k) := by
  have CK := check_ok [p, q] (by simp)
  rw [h] at CK
  have CK : f_check_loads [.lst [encP p, encP q]] = .err ⟨"BadLoad", [("at", nat k)]⟩ := CK
  have X : f_crosses [encP p, encP q] = .err ⟨"BadLoad", [("at", nat k)]⟩ := by
    unfold f_crosses
    rw [m_run]
    unfold b_crosses
    generalize f_check_loads = FC at *
    simp [startE, CK]
  unfold f__law_refused_at
  rw [m_run]
  unfold b__law_refused_at
  generalize f_crosses = FX at *
  simp only [m_seq, sTry, startE, List.map_cons, List.map_nil, List.length_cons, List.length_nil, m_drop, m_call, m_cons, m_nil, m_var]
  simp [X, noExc, PL.chk, hAs, unx, eFld]
theorem lbad_ok (k m : Int) (h0 : 0 ≤ k) (h4 : k < 4) (hm : 0 ≤ m) : ∃ p, f__law_bad [.int k, .int m] = .ok (encP p) ∧ vld p = false := by
  unfold f__law_bad
  rw [m_run]
  unfold b__law_bad
  have c2 : cDiv m 2 = true := cDiv_c (by decide +kernel)
  have h : k = 0 ∨ k = 1 ∨ k = 2 ∨ k = 3 := by omega
  rcases h with rfl | rfl | rfl | rfl
  · refine ⟨(-1 - m, 5), by simp [startE, geq_int], ?_⟩
    unfold vld
    simp
    omega
  · refine ⟨(3, 100 + m), by simp [startE, geq_int], ?_⟩
    unfold vld
    simp
    omega
  · refine ⟨(m, m), by simp [startE, geq_int], ?_⟩
    unfold vld
    simp
  · refine ⟨(2 + m, 1 + m / 2), by simp [startE, geq_int, c2], ?_⟩
    unfold vld
    simp
    omega
end k40
namespace k40
open PySem L2 PL
section
variable {sp : List (Int × Int)} {x : Ex} {d d2 d3 : Dt}
theorem e_cp (h : f_check_loads [d] = .err x) : f_crossing_pairs [d] = .err x := by
  unfold f_crossing_pairs
  rw [m_run]
  unfold b_crossing_pairs
  generalize f_check_loads = F at *
  simp [startE, h]
theorem e_free (h : f_check_loads [d] = .err x) : f_is_free [d, d2] = .err x := by
  unfold f_is_free
  rw [m_run]
  unfold b_is_free
  generalize f_check_loads = F at *
  simp [startE, h]
theorem e_cs (h : f_check_loads [d] = .err x) : f_check_stowage [d, d2] = .err x := by
  unfold f_check_stowage
  rw [m_run]
  unfold b_check_stowage
  generalize f_check_loads = F at *
  simp [startE, h]
theorem e_rs (h : f_check_loads [d] = .err x) : f_run_stowage [d, d2] = .err x := by
  have h := e_cs (d2 := d2) h
  unfold f_run_stowage
  rw [m_run]
  unfold b_run_stowage
  generalize f_check_stowage = F at *
  simp [startE, h]
theorem e_ob (h : f_check_loads [d] = .err x) : f_one_bay [d] = .err x := by
  have h := e_cp h
  unfold f_one_bay
  rw [m_run]
  unfold b_one_bay
  generalize f_crossing_pairs = F at *
  simp [startE, h]
theorem e_cw (h : f_check_loads [d] = .err x) : f_check_worths [d, d2] = .err x := by
  unfold f_check_worths
  rw [m_run]
  unfold b_check_worths
  generalize f_check_loads = F at *
  simp [startE, h]
theorem e_mo (h : f_check_loads [d] = .err x) : f_most_in_one_bay [d, d2] = .err x := by
  have h := e_cw (d2 := d2) h
  unfold f_most_in_one_bay
  rw [m_run]
  unfold b_most_in_one_bay
  generalize f_check_worths = F at *
  simp [startE, h]
theorem e_cf (h : f_check_loads [d] = .err x) : f_check_fixed [d, d2] = .err x := by
  unfold f_check_fixed
  rw [m_run]
  unfold b_check_fixed
  generalize f_check_loads = F at *
  simp [startE, h]
theorem e_tb (h : f_check_loads [d] = .err x) : f_two_bays [d, d2] = .err x := by
  have h := e_cf (d2 := d2) h
  unfold f_two_bays
  rw [m_run]
  unfold b_two_bays
  generalize f_check_fixed = F at *
  simp [startE, h]
theorem e_ib (h : f_check_loads [d] = .err x) : f_is_bays [d, d2, d3] = .err x := by
  have h := e_cf (d2 := d2) h
  unfold f_is_bays
  rw [m_run]
  unfold b_is_bays
  generalize f_check_fixed = F at *
  simp [startE, h]
theorem e_or (h : f_check_loads [d] = .err x) : f_is_odd_ring [d, d2] = .err x := by
  unfold f_is_odd_ring
  rw [m_run]
  unfold b_is_odd_ring
  generalize f_check_loads = F at *
  simp [startE, h]
theorem e_bp (h : f_check_loads [d] = .err x) : f_is_bad_path [d, d2, d3] = .err x := by
  have h := e_cf (d2 := d2) h
  unfold f_is_bad_path
  rw [m_run]
  unfold b_is_bad_path
  generalize f_check_fixed = F at *
  simp [startE, h]
theorem e_cb (h : f_check_loads [d] = .err x) : f_count_bays [d, d2] = .err x := by
  have h := e_cf (d2 := d2) h
  unfold f_count_bays
  rw [m_run]
  unfold b_count_bays
  generalize f_check_fixed = F at *
  simp [startE, h]
theorem e_so (h : f_check_loads [d] = .err x) : f_shortest_odd_ring [d] = .err x := by
  unfold f_shortest_odd_ring
  rw [m_run]
  unfold b_shortest_odd_ring
  generalize f_check_loads = F at *
  simp [startE, h]
theorem call_err (w : Nat) (hw : w < 12) (h : f_check_loads [d] = .err x) : f__law_call [.int (w : Int), d] = .err x := by
  have h1 := e_cp h
  have h2 := e_free (d2 := .lst []) h
  have h3 := e_rs (d2 := .lst [.int (-1)]) h
  have h4 := e_ob h
  have h5 := e_mo (d2 := .lst [.int (-1)]) h
  have h6 := e_tb (d2 := .lst [.int 5]) h
  have h7 := e_ib (d2 := .lst [.int 5]) (d3 := .lst [.int (-1)]) h
  have h8 := e_or (d2 := .lst []) h
  have h9 := e_bp (d2 := .lst [.int 5]) (d3 := .lst []) h
  have h10 := e_cb (d2 := .lst [.int 5]) h
  have h11 := e_so h
  unfold f__law_call
  rw [m_run]
  unfold b__law_call
  generalize f_check_loads = F0 at *
  generalize f_crossing_pairs = F1 at *
  generalize f_is_free = F2 at *
  generalize f_run_stowage = F3 at *
  generalize f_one_bay = F4 at *
  generalize f_most_in_one_bay = F5 at *
  generalize f_two_bays = F6 at *
  generalize f_is_bays = F7 at *
  generalize f_is_odd_ring = F8 at *
  generalize f_is_bad_path = F9 at *
  generalize f_count_bays = F10 at *
  generalize f_shortest_odd_ring = F11 at *
  have hc : w = 0 ∨ w = 1 ∨ w = 2 ∨ w = 3 ∨ w = 4 ∨ w = 5 ∨ w = 6 ∨ w = 7 ∨ w = 8 ∨ w = 9 ∨ w = 10 ∨ w = 11 := by omega
  rcases hc with rfl | rfl | rfl | rfl | rfl | rfl | rfl | rfl | rfl | rfl | rfl | rfl <;> simp [startE, geq_int, h, h1, h2, h3, h4, h5, h6, h7, h8, h9, h10, h11]
theorem told_bad (w : Nat) (hw : w < 12) (k : Dt) (h : f_check_loads [d] = .err ⟨"BadLoad", [("at", k)]⟩) : f__law_told [.int (w : Int), d] = .ok (.tup [.str "BadLoad", k, .bl true]) := by
  have h := call_err w hw h
  unfold f__law_told
  rw [m_run]
  unfold b__law_told
  generalize f__law_call = F at *
  simp only [m_seq, sTry, startE, List.map_cons, List.map_nil, List.length_cons, List.length_nil, m_drop, m_call, m_cons, m_nil, m_var]
  simp [h, noExc, PL.chk, hAs, unx, eFld, eIsE]
theorem told_many (w : Nat) (hw : w < 12) (k : Dt) (h : f_check_loads [d] = .err ⟨"TooMany", [("limit", k)]⟩) : f__law_told [.int (w : Int), d] = .ok (.tup [.str "TooMany", k, .bl true]) := by
  have h := call_err w hw h
  unfold f__law_told
  rw [m_run]
  unfold b__law_told
  generalize f__law_call = F at *
  have n1 : (("TooMany" : Str) == ("BadLoad" : Str)) = false := by decide
  simp only [m_seq, sTry, startE, List.map_cons, List.map_nil, List.length_cons, List.length_nil, m_drop, m_call, m_cons, m_nil, m_var]
  simp [h, noExc, PL.chk, hAs, unx, eFld, eIsE, List.lookup, n1]
end
end k40
namespace k40
open PySem L2 PL
theorem ld_vld {ls : List (Int × Int)} (hv : ∀ p ∈ ls, vld p = true) {k : Nat} (hk : k < ls.length) : vld (ld ls k) = true := by
  refine hv _ ?_
  unfold ld
  rw [List.getD_eq_getElem?_getD, List.getElem?_eq_getElem hk]
  exact List.getElem_mem hk
theorem gne_bl (b : Bool) : gNe (.bl b) (.bl b) = some (.bl false) := gne_self (by simp [plainD]) (by simp [cmpOk])
theorem cright_ok (ns : List Int) (ls : List (Int × Int)) (hn : ls.length ≤ 60) (hv : ∀ p ∈ ls, vld p = true) : f__law_crosses_right [.scr ns, encL ls] = .ok (.bl true) := by
  obtain ⟨v, hd⟩ := draw_ok ns 1
  have hd : f__law_draw [.scr ns, .int 1] = .ok (.int v) := hd
  have x0 : cMod v 4 = true := cMod_c (by decide +kernel)
  have x1 : cDiv v 4 = true := cDiv_c (by decide +kernel)
  have x2 : ∀ x, cMod x 200 = true := fun x => cMod_c (by decide +kernel)
  have x3 : cDiv v 800 = true := cDiv_c (by decide +kernel)
  obtain ⟨p, hb, hp⟩ := lbad_ok (v % 4) (v / 4 % 200) (Int.emod_nonneg _ (by omega)) (Int.emod_lt_of_pos _ (by omega)) (Int.emod_nonneg _ (by omega))
  obtain ⟨q, hl, hq⟩ := load_ok (v / 800) 100 (by omega) (by omega)
  have r1 := refused_ok p q 0 (bad0 p q hp)
  have r2 := refused_ok q p 1 (bad1 q p hq hp)
  have r3 := refused_ok p p 0 (bad0 p p hp)
  unfold f__law_crosses_right
  rw [m_run]
  unfold b__law_crosses_right
  have CR := cross_ok
  have CO := crosses_ok
  generalize f__law_draw = FD at *
  generalize f__law_bad = FB at *
  generalize f__law_load = FL at *
  generalize f__law_refused_at = FR at *
  generalize f__law_cross = FX at *
  generalize f_crosses = FC at *
  rw [m_seq, m_for, show iR2 (eCons (eC (.int 1)) (eCons (eCB gLen (eCons (eVar 1) (eNil))) (eNil))) (startE 8 [.scr ns, encL ls]) = .ok ((List.range' 1 (ls.length - 1)).map nat) by
    have := kR2_nat (a := 1) (n := ls.length) (by omega) (by omega)
    have this : kR2 [.int 1, .int (ls.length : Int)] = .ok ((List.range' 1 (ls.length - 1)).map nat) := this
    simp [startE, this], Rs.so_ok]
  have hL := forL_find (t := .one 2) (g := (sSeq (sSet 3 (eCall 2 FX (eCons (eOp gIx (eVar 1) (eOp gSub (eVar 2) (eC (.int 1)))) (eCons (eOp gIx (eVar 1) (eVar 2)) (eNil))))) (sFor (iL (eL (oLst (eCons (eCall 2 FC (eCons (eOp gIx (eVar 1) (eOp gSub (eVar 2) (eC (.int 1)))) (eCons (eOp gIx (eVar 1) (eVar 2)) (eNil)))) (eCons (eCall 2 FC (eCons (eOp gIx (eVar 1) (eVar 2)) (eCons (eOp gIx (eVar 1) (eOp gSub (eVar 2) (eC (.int 1)))) (eNil)))) (eNil)))))) (.one 4) (sIf (bOr (bNot (bTest (eCB gIsi (eCons (eVar 4) (eCons (eC (.ty "bool")) (eNil)))))) (bTest (eOp gNe (eVar 4) (eVar 3)))) (sRet (eC (.bl false))) (sNop)))))
    nat (fun _ => none) (fun E => ∃ a b c, E = [.val (.scr ns), .val (encL ls), a, b, c, .un, .un, .un]) (List.range' 1 (ls.length - 1)) (startE 8 [.scr ns, encL ls]) ⟨_, _, _, rfl⟩ (by
      intro k hk E hE
      obtain ⟨a, b, c, rfl⟩ := hE
      have hk := List.mem_range'_1.mp hk
      have k1 : k < ls.length := by omega
      have k2 : k - 1 < ls.length := by omega
      have c1 := CR (ld ls (k - 1)) (ld ls k)
      have c2 := CO (ld ls (k - 1)) (ld ls k) (ld_vld hv k2) (ld_vld hv k1)
      have c3 := CO (ld ls k) (ld ls (k - 1)) (ld_vld hv k1) (ld_vld hv k2)
      rw [crs_symm] at c3
      generalize crs (ld ls (k - 1)) (ld ls k) = z at *
      refine ⟨_, rfl, ?_⟩
      have i1 := ix_load' k1
      have i2 := ix_load' k2
      rw [show ((k - 1 : Nat) : Int) = (k : Int) - 1 by omega] at i2
      refine ⟨[.val (.scr ns), .val (encL ls), .val (.int (k : Int)), .val (.bl z), .val (.bl z), .un, .un, .un], ⟨_, _, _, rfl⟩, .inl ?_⟩
      show (sSeq _ _) [.val (.scr ns), .val (encL ls), .val (nat k), b, c, .un, .un, .un] = _
      rw [nat_eq]
      have g1 := gne_bl z
      have g2 := isi_bb z
      have e1 : (sSet 3 (eCall 2 FX (eCons (eOp gIx (eVar 1) (eOp gSub (eVar 2) (eC (.int 1)))) (eCons (eOp gIx (eVar 1) (eVar 2)) (eNil))))) [.val (.scr ns), .val (encL ls), .val (.int (k : Int)), b, c, .un, .un, .un] = .nx [.val (.scr ns), .val (encL ls), .val (.int (k : Int)), .val (.bl z), c, .un, .un, .un] := by
        simp [i1, i2, c1]
      rw [m_seq, e1, then_nx, m_for]
      have e2 : (iL (eL (oLst (eCons (eCall 2 FC (eCons (eOp gIx (eVar 1) (eOp gSub (eVar 2) (eC (.int 1)))) (eCons (eOp gIx (eVar 1) (eVar 2)) (eNil)))) (eCons (eCall 2 FC (eCons (eOp gIx (eVar 1) (eVar 2)) (eCons (eOp gIx (eVar 1) (eOp gSub (eVar 2) (eC (.int 1)))) (eNil)))) (eNil)))))) [.val (.scr ns), .val (encL ls), .val (.int (k : Int)), .val (.bl z), c, .un, .un, .un] = .ok [.bl z, .bl z] := by
        simp [i1, i2, c2, c3]
      rw [e2, Rs.so_ok]
      simp [forL, g1, g2])
  have hN : (List.range' 1 (ls.length - 1)).findSome? (fun _ => (none : Option (Rs Dt))) = none := by simp
  rw [hN] at hL
  obtain ⟨E2, ⟨a, b, c, rfl⟩, e⟩ := hL
  rw [e, then_nx]
  have gq : gEq (.lst [nat 0, nat 1, nat 0]) (.lst [.int 0, .int 1, .int 0]) = some (.bl true) := by
    show (if cmpOk 60 (.lst [nat 0, nat 1, nat 0]) = true ∧ cmpOk 60 (.lst [.int 0, .int 1, .int 0]) = true then some (Dt.bl (eqb (.lst [nat 0, nat 1, nat 0]) (.lst [.int 0, .int 1, .int 0]))) else none) = _
    simp [nat, cmpOk, cmpOkL]
    exact eqb_self (d := .lst [.int 0, .int 1, .int 0]) (by simp [plainD, plainDL])
  simp [hd, x0, x1, x2, x3, hb, hl, r1, r2, r3, gq]
/-! ### the spoilt list: any list of pairs -/
def isL (n : Nat) (r : Rs Dt) : Prop := ∃ sp : List (Int × Int), r = .ok (encL sp) ∧ sp.length ≤ n
theorem cut_map (ls : List (Int × Int)) (lo hi : Option Int) : ∃ m : List (Int × Int), cutD (ls.map encP) lo hi = m.map encP ∧ m.length ≤ ls.length := by
  refine ⟨(ls.drop (HT.sIx (ls.map encP).length 0 lo)).take (HT.sIx (ls.map encP).length (ls.map encP).length hi - HT.sIx (ls.map encP).length 0 lo), ?_, ?_⟩
  · unfold cutD
    rw [List.map_take, List.map_drop]
  · rw [List.length_take, List.length_drop]
    omega
end k40
namespace k40
open PySem L2 PL
theorem spoilt_ok (ns : List Int) (ls : List (Int × Int)) (hn : ls.length ≤ 60) : ∃ sp : List (Int × Int), f__law_spoilt [.scr ns, encL ls] = .ok (encL sp) ∧ sp.length ≤ 1000000 := by
  obtain ⟨v, hd⟩ := draw_ok ns 2
  have hd : f__law_draw [.scr ns, .int 2] = .ok (.int v) := hd
  have BAD := lbad_ok
  unfold f__law_spoilt
  rw [m_run]
  unfold b__law_spoilt
  generalize f__law_draw = FD at *
  generalize f__law_bad = FB at *
  have y8 : ∀ x, cMod x 8 = true := fun x => cMod_c (by decide +kernel)
  have y3 : ∀ x, cMod x 3 = true := fun x => cMod_c (by decide +kernel)
  have y4 : ∀ x, cMod x 4 = true := fun x => cMod_c (by decide +kernel)
  have y2 : ∀ x, cMod x 2 = true := fun x => cMod_c (by decide +kernel)
  have y90 : ∀ x, cMod x 90 = true := fun x => cMod_c (by decide +kernel)
  have yb : ∀ x, cMod x 1000000000 = true := fun x => cMod_c (by decide +kernel)
  have z8 : ∀ x, cDiv x 8 = true := fun x => cDiv_c (by decide +kernel)
  have z3 : ∀ x, cDiv x 3 = true := fun x => cDiv_c (by decide +kernel)
  have z4 : ∀ x, cDiv x 4 = true := fun x => cDiv_c (by decide +kernel)
  have z2 : ∀ x, cDiv x 2 = true := fun x => cDiv_c (by decide +kernel)
  have pw : cPow 10 9 = true := by decide +kernel
  have yn : ∀ x, cMod x ((ls.length : Int) + 1) = true := fun x => decide_eq_true (by omega)
  have zn : ∀ x, cDiv x ((ls.length : Int) + 1) = true := fun x => by
    have h5 : (ls.length : Int) + 1 < 2 ^ 200 := by
      have : (100 : Int) < 2 ^ 200 := by decide
      omega
    unfold cDiv
    rw [decide_eq_true (show (0 : Int) < (ls.length : Int) + 1 by omega), decide_eq_true h5]
    rfl
  rw [m_seq, show sSet 2 (eCall 2 FD (eCons (eVar 0) (eCons (eC (.int 2)) (eNil)))) (startE 14 [.scr ns, encL ls]) = .nx [.val (.scr ns), .val (encL ls), .val (.int (v)), .un, .un, .un, .un, .un, .un, .un, .un, .un, .un, .un] by simp [startE, hd, y8, y3, y4, y2, z8, z3, z4, z2, yn, zn], then_nx]
  rw [m_seq, show sSet 3 (eOp gMod (eCB gInt (eCons (eVar 2) (eNil))) (eC (.int 8))) [.val (.scr ns), .val (encL ls), .val (.int (v)), .un, .un, .un, .un, .un, .un, .un, .un, .un, .un, .un] = .nx [.val (.scr ns), .val (encL ls), .val (.int (v)), .val (.int (v % 8)), .un, .un, .un, .un, .un, .un, .un, .un, .un, .un] by simp [startE, hd, y8, y3, y4, y2, z8, z3, z4, z2, yn, zn], then_nx]
  rw [m_seq, show sSet 2 (eOp gDiv (eVar 2) (eC (.int 8))) [.val (.scr ns), .val (encL ls), .val (.int (v)), .val (.int (v % 8)), .un, .un, .un, .un, .un, .un, .un, .un, .un, .un] = .nx [.val (.scr ns), .val (encL ls), .val (.int (v / 8)), .val (.int (v % 8)), .un, .un, .un, .un, .un, .un, .un, .un, .un, .un] by simp [startE, hd, y8, y3, y4, y2, z8, z3, z4, z2, yn, zn], then_nx]
  rw [m_seq, show sSet 4 (eOp gMod (eCB gInt (eCons (eVar 2) (eNil))) (eC (.int 3))) [.val (.scr ns), .val (encL ls), .val (.int (v / 8)), .val (.int (v % 8)), .un, .un, .un, .un, .un, .un, .un, .un, .un, .un] = .nx [.val (.scr ns), .val (encL ls), .val (.int (v / 8)), .val (.int (v % 8)), .val (.int (v / 8 % 3)), .un, .un, .un, .un, .un, .un, .un, .un, .un] by simp [startE, hd, y8, y3, y4, y2, z8, z3, z4, z2, yn, zn], then_nx]
  rw [m_seq, show sSet 2 (eOp gDiv (eVar 2) (eC (.int 3))) [.val (.scr ns), .val (encL ls), .val (.int (v / 8)), .val (.int (v % 8)), .val (.int (v / 8 % 3)), .un, .un, .un, .un, .un, .un, .un, .un, .un] = .nx [.val (.scr ns), .val (encL ls), .val (.int (v / 8 / 3)), .val (.int (v % 8)), .val (.int (v / 8 % 3)), .un, .un, .un, .un, .un, .un, .un, .un, .un] by simp [startE, hd, y8, y3, y4, y2, z8, z3, z4, z2, yn, zn], then_nx]
  rw [m_seq, show sSet 5 (eOp gMod (eCB gInt (eCons (eVar 2) (eNil))) (eC (.int 4))) [.val (.scr ns), .val (encL ls), .val (.int (v / 8 / 3)), .val (.int (v % 8)), .val (.int (v / 8 % 3)), .un, .un, .un, .un, .un, .un, .un, .un, .un] = .nx [.val (.scr ns), .val (encL ls), .val (.int (v / 8 / 3)), .val (.int (v % 8)), .val (.int (v / 8 % 3)), .val (.int (v / 8 / 3 % 4)), .un, .un, .un, .un, .un, .un, .un, .un] by simp [startE, hd, y8, y3, y4, y2, z8, z3, z4, z2, yn, zn], then_nx]
  rw [m_seq, show sSet 2 (eOp gDiv (eVar 2) (eC (.int 4))) [.val (.scr ns), .val (encL ls), .val (.int (v / 8 / 3)), .val (.int (v % 8)), .val (.int (v / 8 % 3)), .val (.int (v / 8 / 3 % 4)), .un, .un, .un, .un, .un, .un, .un, .un] = .nx [.val (.scr ns), .val (encL ls), .val (.int (v / 8 / 3 / 4)), .val (.int (v % 8)), .val (.int (v / 8 % 3)), .val (.int (v / 8 / 3 % 4)), .un, .un, .un, .un, .un, .un, .un, .un] by simp [startE, hd, y8, y3, y4, y2, z8, z3, z4, z2, yn, zn], then_nx]
  rw [m_seq, show sSet 6 (eOp gMod (eCB gInt (eCons (eVar 2) (eNil))) (eOp gAdd (eCB gLen (eCons (eVar 1) (eNil))) (eC (.int 1)))) [.val (.scr ns), .val (encL ls), .val (.int (v / 8 / 3 / 4)), .val (.int (v % 8)), .val (.int (v / 8 % 3)), .val (.int (v / 8 / 3 % 4)), .un, .un, .un, .un, .un, .un, .un, .un] = .nx [.val (.scr ns), .val (encL ls), .val (.int (v / 8 / 3 / 4)), .val (.int (v % 8)), .val (.int (v / 8 % 3)), .val (.int (v / 8 / 3 % 4)), .val (.int (v / 8 / 3 / 4 % ((ls.length : Int) + 1))), .un, .un, .un, .un, .un, .un, .un] by simp [hd, y8, y3, y4, y2, z8, z3, z4, z2, yn, zn], then_nx]
  obtain ⟨pl, hpl⟩ : ∃ pl : Int, pl = v / 8 / 3 / 4 % ((ls.length : Int) + 1) := ⟨_, rfl⟩
  rw [← hpl]
  rw [m_seq, show sSet 2 (eOp gDiv (eVar 2) (eOp gAdd (eCB gLen (eCons (eVar 1) (eNil))) (eC (.int 1)))) [.val (.scr ns), .val (encL ls), .val (.int (v / 8 / 3 / 4)), .val (.int (v % 8)), .val (.int (v / 8 % 3)), .val (.int (v / 8 / 3 % 4)), .val (.int pl), .un, .un, .un, .un, .un, .un, .un] = .nx [.val (.scr ns), .val (encL ls), .val (.int (v / 8 / 3 / 4 / ((ls.length : Int) + 1))), .val (.int (v % 8)), .val (.int (v / 8 % 3)), .val (.int (v / 8 / 3 % 4)), .val (.int pl), .un, .un, .un, .un, .un, .un, .un] by simp [hd, y8, y3, y4, y2, z8, z3, z4, z2, yn, zn], then_nx]
  obtain ⟨v4, hv4⟩ : ∃ v4 : Int, v4 = v / 8 / 3 / 4 / ((ls.length : Int) + 1) := ⟨_, rfl⟩
  rw [← hv4]
  rw [m_seq, show sSet 7 (eOp gMod (eCB gInt (eCons (eVar 2) (eNil))) (eC (.int 2))) [.val (.scr ns), .val (encL ls), .val (.int v4), .val (.int (v % 8)), .val (.int (v / 8 % 3)), .val (.int (v / 8 / 3 % 4)), .val (.int pl), .un, .un, .un, .un, .un, .un, .un] = .nx [.val (.scr ns), .val (encL ls), .val (.int v4), .val (.int (v % 8)), .val (.int (v / 8 % 3)), .val (.int (v / 8 / 3 % 4)), .val (.int pl), .val (.int (v4 % 2)), .un, .un, .un, .un, .un, .un] by simp [startE, hd, y8, y3, y4, y2, z8, z3, z4, z2, yn, zn], then_nx]
  rw [m_seq, show sSet 2 (eOp gDiv (eVar 2) (eC (.int 2))) [.val (.scr ns), .val (encL ls), .val (.int v4), .val (.int (v % 8)), .val (.int (v / 8 % 3)), .val (.int (v / 8 / 3 % 4)), .val (.int pl), .val (.int (v4 % 2)), .un, .un, .un, .un, .un, .un] = .nx [.val (.scr ns), .val (encL ls), .val (.int (v4 / 2)), .val (.int (v % 8)), .val (.int (v / 8 % 3)), .val (.int (v / 8 / 3 % 4)), .val (.int pl), .val (.int (v4 % 2)), .un, .un, .un, .un, .un, .un] by simp [startE, hd, y8, y3, y4, y2, z8, z3, z4, z2, yn, zn], then_nx]
  rw [m_seq, show sSet 8 (eOp gMod (eCB gInt (eCons (eVar 2) (eNil))) (eC (.int 4))) [.val (.scr ns), .val (encL ls), .val (.int (v4 / 2)), .val (.int (v % 8)), .val (.int (v / 8 % 3)), .val (.int (v / 8 / 3 % 4)), .val (.int pl), .val (.int (v4 % 2)), .un, .un, .un, .un, .un, .un] = .nx [.val (.scr ns), .val (encL ls), .val (.int (v4 / 2)), .val (.int (v % 8)), .val (.int (v / 8 % 3)), .val (.int (v / 8 / 3 % 4)), .val (.int pl), .val (.int (v4 % 2)), .val (.int (v4 / 2 % 4)), .un, .un, .un, .un, .un] by simp [startE, hd, y8, y3, y4, y2, z8, z3, z4, z2, yn, zn], then_nx]
  rw [m_seq, show sSet 2 (eOp gDiv (eVar 2) (eC (.int 4))) [.val (.scr ns), .val (encL ls), .val (.int (v4 / 2)), .val (.int (v % 8)), .val (.int (v / 8 % 3)), .val (.int (v / 8 / 3 % 4)), .val (.int pl), .val (.int (v4 % 2)), .val (.int (v4 / 2 % 4)), .un, .un, .un, .un, .un] = .nx [.val (.scr ns), .val (encL ls), .val (.int (v4 / 2 / 4)), .val (.int (v % 8)), .val (.int (v / 8 % 3)), .val (.int (v / 8 / 3 % 4)), .val (.int pl), .val (.int (v4 % 2)), .val (.int (v4 / 2 % 4)), .un, .un, .un, .un, .un] by simp [startE, hd, y8, y3, y4, y2, z8, z3, z4, z2, yn, zn], then_nx]
  have k0 := Int.emod_nonneg (v / 8 / 3) (show (4 : Int) ≠ 0 by omega)
  have k1 := Int.emod_lt_of_pos (v / 8 / 3) (show (0 : Int) < 4 by omega)
  have w0 := Int.emod_nonneg (v / 8) (show (3 : Int) ≠ 0 by omega)
  have w1 := Int.emod_lt_of_pos (v / 8) (show (0 : Int) < 3 by omega)
  have u0 := Int.emod_nonneg (v4 / 2) (show (4 : Int) ≠ 0 by omega)
  have u1 := Int.emod_lt_of_pos (v4 / 2) (show (0 : Int) < 4 by omega)
  have a0 := Int.emod_nonneg (v4 / 2 / 4) (show (90 : Int) ≠ 0 by omega)
  have b0 := Int.emod_nonneg (v4 / 2 / 4) (show (1000000000 : Int) ≠ 0 by omega)
  generalize v % 8 = ch at *
  generalize v / 8 % 3 = wh at *
  generalize v / 8 / 3 % 4 = ki at *
  generalize v4 % 2 = tw at *
  generalize v4 / 2 % 4 = ot at *
  generalize v4 / 2 / 4 = v6 at *
  obtain ⟨mo, hmo, e9⟩ : ∃ mo : Int, 0 ≤ mo ∧ sSet 9 (eOp gIx (eL (oLst (eCons (eC (.int 0)) (eCons (eOp gMod (eCB gInt (eCons (eVar 2) (eNil))) (eC (.int 90))) (eCons (eOp gMod (eCB gInt (eCons (eVar 2) (eNil))) (eOp gPow (eC (.int 10)) (eC (.int 9)))) (eNil)))))) (eVar 4)) [.val (.scr ns), .val (encL ls), .val (.int v6), .val (.int ch), .val (.int wh), .val (.int ki), .val (.int pl), .val (.int tw), .val (.int ot), .un, .un, .un, .un, .un] = .nx [.val (.scr ns), .val (encL ls), .val (.int v6), .val (.int ch), .val (.int wh), .val (.int ki), .val (.int pl), .val (.int tw), .val (.int ot), .val (.int mo), .un, .un, .un, .un] := by
    have hw : wh = 0 ∨ wh = 1 ∨ wh = 2 := by omega
    have t0 : ∀ a b c : Dt, atI [a, b, c] 0 = some a := fun _ _ _ => rfl
    have t1 : ∀ a b c : Dt, atI [a, b, c] 1 = some b := fun _ _ _ => rfl
    have t2 : ∀ a b c : Dt, atI [a, b, c] 2 = some c := fun _ _ _ => rfl
    rcases hw with rfl | rfl | rfl
    · exact ⟨0, by omega, by simp [y90, pw, yb, t0]⟩
    · exact ⟨v6 % 90, a0, by simp [y90, pw, yb, t1]⟩
    · exact ⟨v6 % 1000000000, b0, by simp [y90, pw, yb, t2]⟩
  rw [m_seq, e9, then_nx]
  have c61 : ls.length + 1 ≤ 1000000 := by omega
  rw [m_seq, show sSet 10 (eOp gAdd (eVar 1) (eL (oLst (eCons (eTup (eCons (eC (.int 0)) (eCons (eC (.int 1)) (eNil)))) (eNil))))) [.val (.scr ns), .val (encL ls), .val (.int v6), .val (.int ch), .val (.int wh), .val (.int ki), .val (.int pl), .val (.int tw), .val (.int ot), .val (.int mo), .un, .un, .un, .un] = .nx [.val (.scr ns), .val (encL ls), .val (.int v6), .val (.int ch), .val (.int wh), .val (.int ki), .val (.int pl), .val (.int tw), .val (.int ot), .val (.int mo), .val (.lst ((ls ++ [(0, 1)]).map encP)), .un, .un, .un] by simp [c61], then_nx]
  have hbl : (ls ++ [(0, 1)]).length = ls.length + 1 := by simp
  generalize (ls ++ [((0 : Int), (1 : Int))]) = bs at *
  obtain ⟨mn, hmn, em⟩ : ∃ mn : List (Int × Int), mn.length = 61 ∧ sSet 11 (eL (oLc (iR1 (eCons (eC (.int 61)) (eNil))) [13] (.one 13) (bYes) (eOp gIx (eVar 10) (eOp gMod (eCB gInt (eCons (eVar 13) (eNil))) (eCB gLen (eCons (eVar 10) (eNil))))))) [.val (.scr ns), .val (encL ls), .val (.int v6), .val (.int ch), .val (.int wh), .val (.int ki), .val (.int pl), .val (.int tw), .val (.int ot), .val (.int mo), .val (.lst (bs.map encP)), .un, .un, .un] = .nx [.val (.scr ns), .val (encL ls), .val (.int v6), .val (.int ch), .val (.int wh), .val (.int ki), .val (.int pl), .val (.int tw), .val (.int ot), .val (.int mo), .val (.lst (bs.map encP)), .val (.lst (mn.map encP)), .un, .un] := by
    refine ⟨(List.range 61).map fun (k : Nat) => ld bs (((k : Int) % (bs.length : Int)).toNat), by simp, ?_⟩
    have e := lc_eq (fi := iR1 (eCons (eC (.int 61)) (eNil))) (own := [13]) (t := .one 13) (ft := bYes) (fe := eOp gIx (eVar 10) (eOp gMod (eCB gInt (eCons (eVar 13) (eNil))) (eCB gLen (eCons (eVar 10) (eNil))))) (E := [.val (.scr ns), .val (encL ls), .val (.int v6), .val (.int ch), .val (.int wh), .val (.int ki), .val (.int pl), .val (.int tw), .val (.int ot), .val (.int mo), .val (.lst (bs.map encP)), .un, .un, .un]) (ds := rng 0 61) (r := ((List.range 61).map fun (k : Nat) => ld bs (((k : Int) % (bs.length : Int)).toNat)).map encP)
      (by
        have := kR1_nat (n := 61) (by omega)
        have this : kR1 [.int 61] = .ok (rng 0 61) := this
        simp [this]) (by rw [len_rng]; omega) (by rfl) (by
        rw [rng0, List.map_map]
        refine lcR_all nat _ _ fun k hk => ⟨_, rfl, ?_⟩
        have hp : (0 : Int) < (bs.length : Int) := by omega
        have m0 := Int.emod_nonneg (k : Int) (show (bs.length : Int) ≠ 0 by omega)
        have m1 := Int.emod_lt_of_pos (k : Int) hp
        have cm : cMod (k : Int) (bs.length : Int) = true := decide_eq_true hp
        have ix := ix_load' (sp := bs) (k := ((k : Int) % (bs.length : Int)).toNat) (by omega)
        rw [Int.toNat_of_nonneg m0] at ix
        rw [nat_eq]
        simp [wipeE, cm, ix])
    simp only [m_set, m_L, e, Rs.bind_ok, Rs.so_ok]
    rfl
  rw [m_seq, em, then_nx]
  by_cases q0 : ch = 0
  · refine ⟨ls, ?_, by omega⟩
    subst q0
    simp [geq_int]
  rw [m_seq, show sIf (bTest (eOp gEq (eVar 3) (eC (.int 0)))) (sRet (eL (oCB gList (eCons (eVar 1) (eNil))))) (sNop) [.val (.scr ns), .val (encL ls), .val (.int v6), .val (.int ch), .val (.int wh), .val (.int ki), .val (.int pl), .val (.int tw), .val (.int ot), .val (.int mo), .val (.lst (bs.map encP)), .val (.lst (mn.map encP)), .un, .un] = .nx [.val (.scr ns), .val (encL ls), .val (.int v6), .val (.int ch), .val (.int wh), .val (.int ki), .val (.int pl), .val (.int tw), .val (.int ot), .val (.int mo), .val (.lst (bs.map encP)), .val (.lst (mn.map encP)), .un, .un] by simp [geq_int, q0], then_nx]
  by_cases q1 : ch = 1
  · obtain ⟨m, hm, hl⟩ := cut_map mn none (some 60)
    refine ⟨m, ?_, by omega⟩
    subst q1
    simp [geq_int, hm]
  rw [m_seq, show sIf (bTest (eOp gEq (eVar 3) (eC (.int 1)))) (sRet (eSl (eVar 11) (pNone) (pSome (eC (.int 60))))) (sNop) [.val (.scr ns), .val (encL ls), .val (.int v6), .val (.int ch), .val (.int wh), .val (.int ki), .val (.int pl), .val (.int tw), .val (.int ot), .val (.int mo), .val (.lst (bs.map encP)), .val (.lst (mn.map encP)), .un, .un] = .nx [.val (.scr ns), .val (encL ls), .val (.int v6), .val (.int ch), .val (.int wh), .val (.int ki), .val (.int pl), .val (.int tw), .val (.int ot), .val (.int mo), .val (.lst (bs.map encP)), .val (.lst (mn.map encP)), .un, .un] by simp [geq_int, q1], then_nx]
  by_cases q2 : ch = 2
  · refine ⟨mn, ?_, by omega⟩
    subst q2
    simp [geq_int]
  rw [m_seq, show sIf (bTest (eOp gEq (eVar 3) (eC (.int 2)))) (sRet (eVar 11)) (sNop) [.val (.scr ns), .val (encL ls), .val (.int v6), .val (.int ch), .val (.int wh), .val (.int ki), .val (.int pl), .val (.int tw), .val (.int ot), .val (.int mo), .val (.lst (bs.map encP)), .val (.lst (mn.map encP)), .un, .un] = .nx [.val (.scr ns), .val (encL ls), .val (.int v6), .val (.int ch), .val (.int wh), .val (.int ki), .val (.int pl), .val (.int tw), .val (.int ot), .val (.int mo), .val (.lst (bs.map encP)), .val (.lst (mn.map encP)), .un, .un] by simp [geq_int, q2], then_nx]
  obtain ⟨p, hp, _⟩ := BAD ki mo k0 k1 hmo
  by_cases q3 : ch = 3
  · refine ⟨p :: mn, ?_, by simp; omega⟩
    subst q3
    have c1 : 1 + mn.length ≤ 1000000 := by omega
    simp [geq_int, hp, c1]
  rw [m_seq, show sIf (bTest (eOp gEq (eVar 3) (eC (.int 3)))) (sRet (eOp gAdd (eL (oLst (eCons (eCall 2 FB (eCons (eVar 5) (eCons (eVar 9) (eNil)))) (eNil)))) (eVar 11))) (sNop) [.val (.scr ns), .val (encL ls), .val (.int v6), .val (.int ch), .val (.int wh), .val (.int ki), .val (.int pl), .val (.int tw), .val (.int ot), .val (.int mo), .val (.lst (bs.map encP)), .val (.lst (mn.map encP)), .un, .un] = .nx [.val (.scr ns), .val (encL ls), .val (.int v6), .val (.int ch), .val (.int wh), .val (.int ki), .val (.int pl), .val (.int tw), .val (.int ot), .val (.int mo), .val (.lst (bs.map encP)), .val (.lst (mn.map encP)), .un, .un] by simp [geq_int, q3], then_nx]
  obtain ⟨m1, e1, l1⟩ := cut_map ls none (some pl)
  obtain ⟨m2, e2, l2⟩ := cut_map ls (some pl) none
  have c1 : m1.length + 1 ≤ 1000000 := by omega
  have c2 : m1.length + 1 + m2.length ≤ 1000000 := by omega
  rw [m_seq, show sOwn 12 (oAdd (eOp gAdd (eSl (eVar 1) (pNone) (pSome (eVar 6))) (eL (oLst (eCons (eCall 2 FB (eCons (eVar 5) (eCons (eVar 9) (eNil)))) (eNil))))) (eSl (eVar 1) (pSome (eVar 6)) (pNone))) [.val (.scr ns), .val (encL ls), .val (.int v6), .val (.int ch), .val (.int wh), .val (.int ki), .val (.int pl), .val (.int tw), .val (.int ot), .val (.int mo), .val (.lst (bs.map encP)), .val (.lst (mn.map encP)), .un, .un] = .nx [.val (.scr ns), .val (encL ls), .val (.int v6), .val (.int ch), .val (.int wh), .val (.int ki), .val (.int pl), .val (.int tw), .val (.int ot), .val (.int mo), .val (.lst (bs.map encP)), .val (.lst (mn.map encP)), .own ((m1 ++ p :: m2).map encP), .un] by simp [hp, e1, e2, c1, c2], then_nx]
  by_cases q4 : tw = 1
  · obtain ⟨q, hq, _⟩ := BAD ot 0 u0 u1 (by omega)
    refine ⟨m1 ++ p :: m2 ++ [q], ?_, by simp; omega⟩
    subst q4
    have c3 : m1.length + (m2.length + 1) < 1000000 := by omega
    simp [geq_int, hq, sApp, c3, sFz]
  · refine ⟨m1 ++ p :: m2, ?_, by simp; omega⟩
    simp [geq_int, q4, sFz]
end k40
namespace k40
open PySem L2 PL
theorem ends_of {C D : Ev → Prop} {o : Option (Rs Dt)} {r : So} (h : EndsN C o r) (w : ∀ E, C E → D E) : Ends1 D o r := by
  match o, h with
  | none, ⟨E2, hC, e⟩ => exact ⟨E2, w _ hC, .inl e⟩
  | some (.ok d), h => exact h
  | some (.err x), h => exact h
  | some .bad, h => exact h
theorem forL_findR {t : Tg} {g : Ev → So} (step : Nat → Option (Rs Dt)) (C : Nat → Ev → Prop) :
    ∀ (m s : Nat) (E : Ev), C s E → (∀ k E, s ≤ k → k < s + m → C k E → ∃ E1, t.go (nat k) E = some E1 ∧ Ends1 (C (k + 1)) (step k) (g E1)) → EndsN (C (s + m)) ((List.range' s m).findSome? step) (forL t g ((List.range' s m).map nat) E)
  | 0, s, E, hE, _ => ⟨E, hE, rfl⟩
  | m + 1, s, E, hE, h => by
    obtain ⟨E1, e1, h1⟩ := h s E (Nat.le_refl _) (by omega) hE
    rw [List.range'_succ, List.findSome?_cons, List.map_cons]
    show EndsN _ _ (match t.go (nat s) E with | none => .bad | some E1 => turn (g E1) (forL t g ((List.range' (s + 1) m).map nat)))
    rw [e1]
    show EndsN _ _ (turn (g E1) (forL t g ((List.range' (s + 1) m).map nat)))
    cases hs : step s with
    | none =>
      rw [hs] at h1
      obtain ⟨E2, hC, h2⟩ := h1
      have ih := forL_findR step C m (s + 1) E2 hC fun k E h1 h2 => h k E (by omega) (by omega)
      rw [show s + (m + 1) = s + 1 + m by omega]
      rcases h2 with e2 | e2 <;> rw [e2] <;> exact ih
    | some r =>
      rw [hs] at h1
      cases r with
      | ok d =>
        have h1 : g E1 = .rt d := h1
        rw [h1]
        rfl
      | err x =>
        obtain ⟨E2, e2⟩ := h1
        rw [e2]
        exact ⟨E2, rfl⟩
      | bad => exact h1.elim
def isE (d : Dt) : Prop := (∃ i, d = .int i) ∨ ∃ b, d = .bl b
def el (ch : List Dt) (k : Nat) : Dt := ch.getD k .non
theorem el_ix {ch : List Dt} {k : Nat} (h : k < ch.length) : atI ch (k : Int) = some (el ch k) := by
  rw [atI_ok h]
  simp [el, h]
theorem el_mem {ch : List Dt} {k : Nat} (h : k < ch.length) : el ch k ∈ ch := by
  unfold el
  rw [List.getD_eq_getElem?_getD, List.getElem?_eq_getElem h]
  exact List.getElem_mem h
def badE (n : Int) : Dt → Bool
  | .int i => !(decide (0 ≤ i) && decide (i < n))
  | _ => true
def valOf : Dt → Int
  | .int i => i
  | _ => 0
def stop (n : Int) (ch : List Dt) (k : Nat) : Bool := badE n (el ch k) || (decide (0 < k) && decide (valOf (el ch k) ≤ valOf (el ch (k - 1))))
def stepC (n : Int) (ch : List Dt) (k : Nat) : Option (Rs Dt) := if stop n ch k = true then some (.ok (.bl false)) else none
/-- the places below k are good -/
def Good (n : Int) (ch : List Dt) (k : Nat) : Prop := ∀ j, j < k → badE n (el ch j) = false
theorem good_int {n : Int} {d : Dt} (h : badE n d = false) : ∃ i, d = .int i ∧ 0 ≤ i ∧ i < n := by
  match d, h with
  | .int i, h =>
    refine ⟨i, rfl, ?_⟩
    simp [badE] at h
    exact h
/-- a turn of the first loop -/
theorem turn_eq {ls : List (Int × Int)} {ch : List Dt} {n : Int} (hn : n = (ls.length : Int)) {k : Nat} (hk : k < ch.length) (he : ∀ d ∈ ch, isE d) (hg : Good n ch k) (E : Ev) (B T2 : Ev → Rs Bool)
    (hB : B E = .ok (badE n (el ch k))) (hT : ∀ i, el ch k = .int i → T2 E = .ok (decide (0 < k) && decide (valOf (el ch k) ≤ valOf (el ch (k - 1))))) :
    (sSeq (sIf B (sRet (eC (.bl false))) sNop) (sIf T2 (sRet (eC (.bl false))) sNop)) E = if stop n ch k = true then .rt (.bl false) else .nx E := by
  rw [m_seq, m_sif, hB, Rs.so_ok]
  unfold stop
  cases hb : badE n (el ch k) with
  | true => simp
  | false =>
    obtain ⟨i, hi, _⟩ := good_int hb
    rw [show (if false = true then sRet (eC (.bl false)) E else sNop E) = .nx E from rfl, then_nx, m_sif, hT i hi, Rs.so_ok]
    generalize (decide (0 < k) && decide (valOf (el ch k) ≤ valOf (el ch (k - 1)))) = z
    cases z <;> simp
theorem good_succ {n : Int} {ch : List Dt} {k : Nat} (hg : Good n ch k) (h : stop n ch k = false) : Good n ch (k + 1) := by
  intro j hj
  by_cases e : j = k
  · subst e
    unfold stop at h
    rw [Bool.or_eq_false_iff] at h
    exact h.1
  · exact hg j (by omega)
theorem le_part {n : Int} {ch : List Dt} {k : Nat} {i : Int} (hk : k < ch.length) (hg : Good n ch k) (hi : el ch k = .int i) (IX IP : Ev → Rs Dt) (a0 : Ev → Rs Dt) (E : Ev) (ha : a0 E = .ok (.int (k : Int))) (h1 : IX E = .ok (.int i)) (h2 : 0 < k → IP E = .ok (el ch (k - 1))) :
    bAnd (bTest (eOp gGt a0 (eC (.int 0)))) (bTest (eOp gLe IX IP)) E = .ok (decide (0 < k) && decide (valOf (el ch k) ≤ valOf (el ch (k - 1)))) := by
  by_cases h0 : 0 < k
  · obtain ⟨j, hj, _⟩ := good_int (hg (k - 1) (by omega))
    have h2 := h2 h0
    rw [hj] at h2
    rw [hi, hj]
    have h0' : (0 : Int) < (k : Int) := by omega
    simp [ha, h1, h2, h0, h0', valOf]
    rfl
  · have h0' : ¬ (0 : Int) < (k : Int) := by omega
    simp [ha, h0, h0']
theorem choice_ok (ls : List (Int × Int)) (ch : List Dt) (hc : ch.length ≤ 1000000) (he : ∀ d ∈ ch, isE d) :
    (((List.range' 0 ch.length).findSome? (stepC (ls.length : Int) ch) = none ∧ f_is_choice [encL ls, .lst ch] = .ok (.bl true) ∧ Good (ls.length : Int) ch ch.length) ∨ ((List.range' 0 ch.length).findSome? (stepC (ls.length : Int) ch) = some (.ok (.bl false)) ∧ f_is_choice [encL ls, .lst ch] = .ok (.bl false))) := by
  unfold f_is_choice
  rw [m_run]
  unfold b_is_choice
  have IN := isn_int
  have IB := isn_bl
  generalize f_is_number = IS at *
  rw [m_seq, m_for, show iR1 (eCons (eCB gLen (eCons (eVar 1) (eNil))) (eNil)) (startE 3 [encL ls, .lst ch]) = .ok (rng 0 ch.length) by simp [startE, kR1_nat hc], Rs.so_ok, rng0, List.range_eq_range']
  have hL := forL_findR (t := .one 2) (g := (sSeq (sIf (bNot (bTest (eCall 3 IS (eCons (eOp gIx (eVar 1) (eVar 2)) (eCons (eC (.int 0)) (eCons (eOp gSub (eCB gLen (eCons (eVar 0) (eNil))) (eC (.int 1))) (eNil))))))) (sRet (eC (.bl false))) (sNop)) (sIf (bAnd (bTest (eOp gGt (eVar 2) (eC (.int 0)))) (bTest (eOp gLe (eOp gIx (eVar 1) (eVar 2)) (eOp gIx (eVar 1) (eOp gSub (eVar 2) (eC (.int 1))))))) (sRet (eC (.bl false))) (sNop))))
    (stepC (ls.length : Int) ch) (fun k E => Good (ls.length : Int) ch k ∧ ∃ x, E = [.val (encL ls), .val (.lst ch), x]) ch.length 0 (startE 3 [encL ls, .lst ch]) ⟨(fun j h => by omega), _, rfl⟩ (by
      intro k E _ hk ⟨hg, x, hE⟩
      subst hE
      have hk : k < ch.length := by omega
      refine ⟨_, rfl, ?_⟩
      have ix := el_ix hk
      show Ends1 _ _ ((sSeq _ _) [.val (encL ls), .val (.lst ch), .val (nat k)])
      rw [nat_eq, turn_eq rfl hk he hg]
      · unfold stepC
        cases hs : stop (ls.length : Int) ch k with
        | true => rfl
        | false => exact ⟨_, ⟨good_succ hg hs, _, rfl⟩, .inl rfl⟩
      · rcases he _ (el_mem hk) with ⟨i, hi⟩ | ⟨b, hb⟩
        · rw [hi] at ix ⊢
          have e : (decide (i ≤ (ls.length : Int) - 1)) = decide (i < (ls.length : Int)) := by
            rw [Bool.eq_iff_iff]
            simp
            omega
          have IN := IN i 0 ((ls.length : Int) - 1)
          rw [e] at IN
          show bNot (bTest (eCall 3 IS (eCons (eOp gIx (eVar 1) (eVar 2)) (eCons (eC (.int 0)) (eCons (eOp gSub (eCB gLen (eCons (eVar 0) (eNil))) (eC (.int 1))) (eNil)))))) _ = .ok (!(decide (0 ≤ i) && decide (i < (ls.length : Int))))
          generalize (decide (0 ≤ i) && decide (i < (ls.length : Int))) = z at *
          simp [ix, IN]
        · rw [hb] at ix ⊢
          simp [ix, IB, badE]
      · intro i hi
        refine le_part hk hg hi _ _ _ _ rfl (by rw [hi] at ix; simp [ix]) fun h0 => ?_
        have ip := el_ix (ch := ch) (k := k - 1) (by omega)
        rw [show ((k - 1 : Nat) : Int) = (k : Int) - 1 by omega] at ip
        simp [ip])
  rw [Nat.zero_add] at hL
  cases hf : (List.range' 0 ch.length).findSome? (stepC (ls.length : Int) ch) with
  | none =>
    rw [hf] at hL
    obtain ⟨E2, ⟨hg, x, rfl⟩, e⟩ := hL
    refine .inl ⟨rfl, ?_, hg⟩
    rw [e]
    simp
  | some r =>
    obtain ⟨k, _, hk⟩ := List.exists_of_findSome?_eq_some hf
    unfold stepC at hk
    split at hk
    · cases hk
      refine .inr ⟨rfl, ?_⟩
      rw [hf] at hL
      have e : forL _ _ _ _ = So.rt _ := hL
      rw [e]
      rfl
    · cases hk
/-- all are good: numbers of loads -/
theorem good_all {n : Int} {ch : List Dt} (hg : Good n ch ch.length) : ∃ is : List Int, ch = is.map Dt.int ∧ ∀ i ∈ is, 0 ≤ i ∧ i < n := by
  have : ∀ (m : Nat), m ≤ ch.length → ∃ is : List Int, ch.take m = is.map Dt.int ∧ ∀ i ∈ is, 0 ≤ i ∧ i < n := by
    intro m
    induction m with
    | zero => exact fun _ => ⟨[], rfl, fun i h => by cases h⟩
    | succ m ih =>
      intro hm
      obtain ⟨is, e, h⟩ := ih (by omega)
      obtain ⟨i, hi, hr⟩ := good_int (hg m (by omega))
      refine ⟨is ++ [i], ?_, ?_⟩
      · rw [List.take_add_one, e, List.map_append]
        have : ch[m]? = some (.int i) := by
          rw [← hi]
          unfold el
          rw [List.getD_eq_getElem?_getD, List.getElem?_eq_getElem (show m < ch.length by omega)]
          rfl
        rw [this]
        rfl
      · intro j hj
        rcases List.mem_append.mp hj with hj | hj
        · exact h j hj
        · cases List.mem_singleton.mp hj
          exact hr
  obtain ⟨is, e, h⟩ := this ch.length (Nat.le_refl _)
  rw [List.take_length] at e
  exact ⟨is, e, h⟩
def stI (ls : List (Int × Int)) (i j : Int) : Option (Rs Dt) := if crs (ld ls i.toNat) (ld ls j.toNat) = true then some (.ok (.bl false)) else none
def stO (ls : List (Int × Int)) (is : List Int) (i : Int) : Option (Rs Dt) := is.findSome? (stI ls i)
theorem stO_val (ls : List (Int × Int)) (is : List Int) (i : Int) : stO ls is i = none ∨ stO ls is i = some (.ok (.bl false)) := by
  unfold stO
  cases h : is.findSome? (stI ls i) with
  | none => exact .inl rfl
  | some r =>
    obtain ⟨j, _, hj⟩ := List.exists_of_findSome?_eq_some h
    unfold stI at hj
    split at hj
    · cases hj
      exact .inr rfl
    · cases hj
theorem ix_int {ls : List (Int × Int)} {i : Int} (h : 0 ≤ i ∧ i < (ls.length : Int)) : atI (ls.map encP) i = some (encP (ld ls i.toNat)) := by
  have := ix_load' (sp := ls) (k := i.toNat) (by omega)
  rw [Int.toNat_of_nonneg h.1] at this
  exact this
/-- the two loops over the chosen -/
theorem nest (ls : List (Int × Int)) (is : List Int) (hi : ∀ i ∈ is, 0 ≤ i ∧ i < (ls.length : Int)) (mk : Sl → Sl → Ev) (i1 i2 : Nat) (B : Ev → Rs Bool)
    (h1 : ∀ x y d, (mk x y).set i1 (.val d) = mk (.val d) y) (h2 : ∀ x y d, (mk x y).set i2 (.val d) = mk x (.val d)) (h3 : ∀ x y, iL (eVar 1) (mk x y) = .ok (is.map Dt.int))
    (h4 : ∀ i j, i ∈ is → j ∈ is → B (mk (.val (.int i)) (.val (.int j))) = .ok (crs (ld ls i.toNat) (ld ls j.toNat))) (x0 y0 : Sl) :
    EndsN (fun E => ∃ x y, E = mk x y) (is.findSome? (stO ls is)) (sFor (iL (eVar 1)) (.one i1) (sFor (iL (eVar 1)) (.one i2) (sIf B (sRet (eC (.bl false))) sNop)) (mk x0 y0)) := by
  rw [m_for, h3, Rs.so_ok]
  refine forL_find (t := .one i1) Dt.int (stO ls is) _ is _ ⟨_, _, rfl⟩ fun i hii E hE => ?_
  obtain ⟨x, y, rfl⟩ := hE
  refine ⟨_, rfl, ?_⟩
  rw [h1, m_for, h3, Rs.so_ok]
  refine ends_of (C := fun E => ∃ y, E = mk (.val (.int i)) y) (forL_find (t := .one i2) Dt.int (stI ls i) _ is _ ⟨_, rfl⟩ fun j hj E hE => ?_) fun E ⟨y, e⟩ => ⟨_, y, e⟩
  obtain ⟨y', rfl⟩ := hE
  refine ⟨_, rfl, ?_⟩
  rw [h2, m_sif, h4 i j hii hj, Rs.so_ok]
  unfold stI
  cases crs (ld ls i.toNat) (ld ls j.toNat) with
  | true => rfl
  | false => exact ⟨_, ⟨_, rfl⟩, .inl rfl⟩
theorem nest_end {ls : List (Int × Int)} {is : List Int} {C : Ev → Prop} {r : So} (h : EndsN C (is.findSome? (stO ls is)) r) : (is.findSome? (stO ls is) = none ∧ (∃ E, r = .nx E)) ∨ (is.findSome? (stO ls is) = some (.ok (.bl false)) ∧ r = .rt (.bl false)) := by
  cases hf : is.findSome? (stO ls is) with
  | none =>
    rw [hf] at h
    obtain ⟨E2, _, e⟩ := h
    exact .inl ⟨rfl, E2, e⟩
  | some r' =>
    obtain ⟨i, _, hi⟩ := List.exists_of_findSome?_eq_some hf
    rcases stO_val ls is i with e | e
    · rw [e] at hi
      cases hi
    · rw [e] at hi
      cases hi
      rw [hf] at h
      exact .inr ⟨rfl, h⟩
theorem free_ok (ls : List (Int × Int)) (ch : List Dt) (hn : ls.length ≤ 60) (hv : ∀ p ∈ ls, vld p = true) (hc : ch.length ≤ 1000000) (he : ∀ d ∈ ch, isE d) : ∃ b, f_is_free [encL ls, .lst ch] = .ok (.bl b) ∧ f__law_free [encL ls, .lst ch] = .ok (.bl b) := by
  have CH := choice_ok ls ch hc he
  have CK := check_ok ls (by omega)
  rw [chk_ok hn hv] at CK
  have DO := do_ok
  have CR := cross_ok
  have II := isint_i
  have IB := isint_b
  unfold f_is_free f__law_free
  rw [m_run, m_run]
  unfold b_is_free b__law_free
  generalize f_check_loads = FC at *
  generalize f_is_choice = FH at *
  generalize f_do_cross = FD at *
  generalize f__law_cross = FX at *
  generalize f__law_is_integer = FI at *
  rw [m_seq, show sDrop (eCall 1 FC (eCons (eVar 0) (eNil))) (startE 4 [encL ls, .lst ch]) = .nx [.val (encL ls), .val (.lst ch), .un, .un] by simp [startE, CK], then_nx, m_seq, m_sif]
  -- the law's first loop
  rw [m_seq, m_for, show iR1 (eCons (eCB gLen (eCons (eVar 1) (eNil))) (eNil)) (startE 5 [encL ls, .lst ch]) = .ok (rng 0 ch.length) by simp [startE, kR1_nat hc], Rs.so_ok, rng0, List.range_eq_range']
  have hL := forL_findR (t := .one 2) (g := (sSeq (sIf (bOr (bNot (bTest (eCall 1 FI (eCons (eOp gIx (eVar 1) (eVar 2)) (eNil))))) (bOr (bTest (eOp gLt (eOp gIx (eVar 1) (eVar 2)) (eC (.int 0)))) (bTest (eOp gGe (eOp gIx (eVar 1) (eVar 2)) (eCB gLen (eCons (eVar 0) (eNil))))))) (sRet (eC (.bl false))) (sNop)) (sIf (bAnd (bTest (eOp gGt (eVar 2) (eC (.int 0)))) (bTest (eOp gLe (eOp gIx (eVar 1) (eVar 2)) (eOp gIx (eVar 1) (eOp gSub (eVar 2) (eC (.int 1))))))) (sRet (eC (.bl false))) (sNop))))
    (stepC (ls.length : Int) ch) (fun k E => Good (ls.length : Int) ch k ∧ ∃ x, E = [.val (encL ls), .val (.lst ch), x, .un, .un]) ch.length 0 (startE 5 [encL ls, .lst ch]) ⟨(fun j h => by omega), _, rfl⟩ (by
      intro k E _ hk ⟨hg, x, hE⟩
      subst hE
      have hk : k < ch.length := by omega
      refine ⟨_, rfl, ?_⟩
      have ix := el_ix hk
      show Ends1 _ _ ((sSeq _ _) [.val (encL ls), .val (.lst ch), .val (nat k), .un, .un])
      rw [nat_eq, turn_eq rfl hk he hg]
      · unfold stepC
        cases hs : stop (ls.length : Int) ch k with
        | true => rfl
        | false => exact ⟨_, ⟨good_succ hg hs, _, rfl⟩, .inl rfl⟩
      · rcases he _ (el_mem hk) with ⟨i, hi⟩ | ⟨b, hb⟩
        · rw [hi] at ix ⊢
          show _ = Rs.ok (!(decide (0 ≤ i) && decide (i < (ls.length : Int))))
          by_cases a1 : i < 0
          · have a2 : ¬ 0 ≤ i := by omega
            simp [ix, II, a1, a2]
          · have a2 : 0 ≤ i := by omega
            by_cases a3 : (ls.length : Int) ≤ i
            · have a4 : ¬ i < (ls.length : Int) := by omega
              simp [ix, II, a1, a2, a3, a4]
            · have a4 : i < (ls.length : Int) := by omega
              simp [ix, II, a1, a2, a3, a4]
        · rw [hb] at ix ⊢
          simp [ix, IB, badE]
      · intro i hi
        refine le_part hk hg hi _ _ _ _ rfl (by rw [hi] at ix; simp [ix]) fun h0 => ?_
        have ip := el_ix (ch := ch) (k := k - 1) (by omega)
        rw [show ((k - 1 : Nat) : Int) = (k : Int) - 1 by omega] at ip
        simp [ip])
  rw [Nat.zero_add] at hL
  rcases CH with ⟨hf, c1, hg⟩ | ⟨hf, c1⟩
  · -- all are numbers of loads
    rw [hf] at hL
    obtain ⟨E2, ⟨_, x, rfl⟩, e⟩ := hL
    rw [e, then_nx]
    obtain ⟨is, rfl, hi⟩ := good_all hg
    rw [show bNot (bTest (eCall 2 FH (eCons (eVar 0) (eCons (eVar 1) (eNil))))) [.val (encL ls), .val (.lst (is.map Dt.int)), .un, .un] = .ok false by simp [c1], Rs.so_ok]
    rw [show (if false = true then sRet (eC (.bl false)) [.val (encL ls), .val (.lst (is.map Dt.int)), .un, .un] else sNop [.val (encL ls), .val (.lst (is.map Dt.int)), .un, .un]) = .nx [.val (encL ls), .val (.lst (is.map Dt.int)), .un, .un] from rfl, then_nx, m_seq, m_seq]
    have N1 := nest_end (nest ls is hi (fun x y => [.val (encL ls), .val (.lst (is.map Dt.int)), x, y]) 2 3 (bTest (eCall 2 FD (eCons (eOp gIx (eVar 0) (eVar 2)) (eCons (eOp gIx (eVar 0) (eVar 3)) (eNil))))) (fun _ _ _ => rfl) (fun _ _ _ => rfl) (fun _ _ => by simp) (fun i j h1 h2 => by
      simp [ix_int (hi i h1), ix_int (hi j h2), DO]) .un .un)
    have N2 := nest_end (nest ls is hi (fun a b => [.val (encL ls), .val (.lst (is.map Dt.int)), x, a, b]) 3 4 (bTest (eCall 2 FX (eCons (eOp gIx (eVar 0) (eVar 3)) (eCons (eOp gIx (eVar 0) (eVar 4)) (eNil))))) (fun _ _ _ => rfl) (fun _ _ _ => rfl) (fun _ _ => by simp) (fun i j h1 h2 => by
      simp [ix_int (hi i h1), ix_int (hi j h2), CR]) .un .un)
    rcases N1 with ⟨z1, E1, e1⟩ | ⟨z1, e1⟩
    · rcases N2 with ⟨z2, E2, e2⟩ | ⟨z2, e2⟩
      · refine ⟨true, ?_, ?_⟩
        · rw [e1]
          simp
        · rw [e2]
          simp
      · rw [z1] at z2
        cases z2
    · rcases N2 with ⟨z2, E2, e2⟩ | ⟨z2, e2⟩
      · rw [z1] at z2
        cases z2
      · refine ⟨false, ?_, ?_⟩
        · rw [e1]
          simp
        · rw [e2]
          simp
  · rw [hf] at hL
    have e : forL _ _ _ _ = So.rt _ := hL
    refine ⟨false, ?_, ?_⟩
    · rw [show bNot (bTest (eCall 2 FH (eCons (eVar 0) (eCons (eVar 1) (eNil))))) [.val (encL ls), .val (.lst ch), .un, .un] = .ok true by simp [c1], Rs.so_ok]
      simp
    · rw [e]
      simp
end k40
namespace k40
open PySem L2 PL
theorem intsOf_map : ∀ l : List Int, intsOf (l.map Dt.int) = some l
  | [] => rfl
  | i :: l => by
    show (intsOf (l.map Dt.int)).map (i :: ·) = _
    rw [intsOf_map l]
    rfl
theorem sorted_ints (l : List Int) : gSorted [.lst (l.map Dt.int)] = some ((isort l).map Dt.int) := by
  show (intsOf (l.map Dt.int)).map _ = _
  rw [intsOf_map]
  rfl
theorem isort_len (l : List Int) : (isort l).length = l.length := (isort_perm l).length_eq
theorem ints_isE (l : List Int) : ∀ d ∈ l.map Dt.int, isE d := by
  intro d hd
  obtain ⟨i, _, rfl⟩ := List.mem_map.mp hd
  exact .inl ⟨i, rfl⟩
theorem cut_ints (l : List Int) (lo hi : Option Int) : ∃ m : List Int, cutD (l.map Dt.int) lo hi = m.map Dt.int ∧ m.length ≤ l.length := by
  refine ⟨(l.drop (HT.sIx (l.map Dt.int).length 0 lo)).take (HT.sIx (l.map Dt.int).length (l.map Dt.int).length hi - HT.sIx (l.map Dt.int).length 0 lo), ?_, ?_⟩
  · unfold cutD
    rw [List.map_take, List.map_drop]
  · rw [List.length_take, List.length_drop]
    omega
theorem cmp_ints (l : List Int) : cmpOkL 59 (l.map Dt.int) = true := cmpL_of fun d hd => by
  obtain ⟨i, _, rfl⟩ := List.mem_map.mp hd
  rfl
def goodL (d : Dt) : Prop := ∃ l : List Dt, d = .lst l ∧ l.length ≤ 1000000 ∧ ∀ x ∈ l, isE x
theorem goodL_ints {l : List Int} (h : l.length ≤ 1000000) : goodL (.lst (l.map Dt.int)) := ⟨_, rfl, by simpa using h, ints_isE l⟩
theorem greedy_ok (FX : List Dt → Rs Dt) (CR : ∀ p q : Int × Int, FX [encP p, encP q] = .ok (.bl (crs p q))) (s : Dt) (ls : List (Int × Int)) (hn : ls.length ≤ 60) (gs : List Int) (hg : ∀ i ∈ gs, 0 ≤ i ∧ i < (ls.length : Int)) (hl : gs.length ≤ 60) (k : Nat) (hk : k < ls.length) :
    ∃ b, bOwn 2 (bTest (eOp gEq (eCB gLen (eCons (eL (oLc (iL (eVar 2)) [8] (.one 8) (bTest (eCall 2 FX (eCons (eOp gIx (eVar 1) (eVar 8)) (eCons (eOp gIx (eVar 1) (eVar 3)) (eNil))))) (eVar 8))) (eNil))) (eC (.int 0)))) [.val s, .val (encL ls), .own (gs.map Dt.int), .val (nat k), .un, .un, .un, .un, .un] = .ok b := by
  have e := lc_eq (fi := iL (eVar 2)) (own := [8]) (t := .one 8) (ft := (bTest (eCall 2 FX (eCons (eOp gIx (eVar 1) (eVar 8)) (eCons (eOp gIx (eVar 1) (eVar 3)) (eNil)))))) (fe := eVar 8) (E := [.val s, .val (encL ls), .val (.lst (gs.map Dt.int)), .val (nat k), .un, .un, .un, .un, .un]) (ds := gs.map Dt.int) (r := (gs.filter fun i => crs (ld ls i.toNat) (ld ls k)).map Dt.int)
    (by simp) (by simp; omega) (by rfl) (by
      refine lcR_map (t := .one 8) Dt.int (fun i => crs (ld ls i.toNat) (ld ls k)) Dt.int gs fun i hi => ⟨_, rfl, ?_, fun _ => rfl⟩
      rw [nat_eq]
      simp [wipeE, ix_int (hg i hi), ix_load' hk, CR])
  refine ⟨decide (((gs.filter fun i => crs (ld ls i.toNat) (ld ls k)).length : Int) = 0), ?_⟩
  have e2 : bTest (eOp gEq (eCB gLen (eCons (eL (oLc (iL (eVar 2)) [8] (.one 8) (bTest (eCall 2 FX (eCons (eOp gIx (eVar 1) (eVar 8)) (eCons (eOp gIx (eVar 1) (eVar 3)) (eNil))))) (eVar 8))) (eNil))) (eC (.int 0))) [.val s, .val (encL ls), .val (.lst (gs.map Dt.int)), .val (nat k), .un, .un, .un, .un, .un] = .ok (decide (((gs.filter fun i => crs (ld ls i.toNat) (ld ls k)).length : Int) = 0)) := by
    rw [m_test, m_op, m_cb, m_cons, m_L, e]
    simp [geq_int]
  show (match bTest (eOp gEq (eCB gLen (eCons (eL (oLc (iL (eVar 2)) [8] (.one 8) (bTest (eCall 2 FX (eCons (eOp gIx (eVar 1) (eVar 8)) (eCons (eOp gIx (eVar 1) (eVar 3)) (eNil))))) (eVar 8))) (eNil))) (eC (.int 0))) [.val s, .val (encL ls), .val (.lst (gs.map Dt.int)), .val (nat k), .un, .un, .un, .un, .un] with | .ok b => Rs.ok b | _ => .bad) = _
  rw [e2]
theorem lists_ok (ns : List Int) (ls : List (Int × Int)) (hn : ls.length ≤ 60) : ∃ L : List Dt, f__law_lists [.scr ns, encL ls] = .ok (.lst L) ∧ L.length ≤ 1000 ∧ ∀ d ∈ L, goodL d := by
  obtain ⟨v, hd⟩ := draw_ok ns 2
  have hd : f__law_draw [.scr ns, .int 2] = .ok (.int v) := hd
  have x3 : ∀ x, cMod x 3 = true := fun x => cMod_c (by decide +kernel)
  have z3 : ∀ x, cDiv x 3 = true := fun x => cDiv_c (by decide +kernel)
  have CR := cross_ok
  unfold f__law_lists
  rw [m_run]
  unfold b__law_lists
  generalize f__law_draw = FD at *
  generalize f__law_cross = FX at *
  have hr : ∀ (E : Ev), eVar 1 E = .ok (encL ls) → iR1 (eCons (eCB gLen (eCons (eVar 1) (eNil))) (eNil)) E = .ok ((List.range ls.length).map nat) := by
    intro E hE
    rw [m_iR1, m_cons, m_cb, m_cons, hE]
    simp [kR1_nat (show ls.length ≤ 1000000 by omega), rng0]
  rw [m_seq, show sOwn 2 (oLst (eNil)) (startE 9 [.scr ns, encL ls]) = .nx [.val (.scr ns), .val (encL ls), .own [], .un, .un, .un, .un, .un, .un] by simp [startE], then_nx, m_seq, m_for, hr _ rfl, Rs.so_ok]
  have h1 := forL_foldN (β := Unit) (t := .one 3) (g := (sIf (bOwn 2 (bTest (eOp gEq (eCB gLen (eCons (eL (oLc (iL (eVar 2)) [8] (.one 8) (bTest (eCall 2 FX (eCons (eOp gIx (eVar 1) (eVar 8)) (eCons (eOp gIx (eVar 1) (eVar 3)) (eNil))))) (eVar 8))) (eNil))) (eC (.int 0))))) (sApp 2 (eVar 3)) (sNop))) nat (fun _ _ => ())
    (fun m _ E => ∃ (gs : List Int) (x : Sl), gs.length ≤ m ∧ (∀ i ∈ gs, 0 ≤ i ∧ i < (ls.length : Int)) ∧ ne x ∧ E = [.val (.scr ns), .val (encL ls), .own (gs.map Dt.int), x, .un, .un, .un, .un, .un]) (List.range ls.length) 0 () [.val (.scr ns), .val (encL ls), .own [], .un, .un, .un, .un, .un, .un] ⟨[], .un, by simp, (fun i h => by cases h), (rfl : noExc [Sl.un] = true), rfl⟩ (by
      intro k hk m b E _ hm ⟨gs, x, hl, hg, hx, hE⟩
      subst hE
      have hk := List.mem_range.mp hk
      rw [List.length_range] at hm
      obtain ⟨z, hz⟩ := greedy_ok FX CR (.scr ns) ls hn gs hg (by omega) k hk
      cases z with
      | true =>
        refine ⟨_, [.val (.scr ns), .val (encL ls), .own ((gs ++ [(0 : Int) + (k : Int)]).map Dt.int), .val (nat k), .un, .un, .un, .un, .un], rfl, .inl ?_, gs ++ [(0 : Int) + (k : Int)], .val (nat k), by simp; omega, ?_, (rfl : noExc [Sl.val (nat k)] = true), rfl⟩
        · show (sIf _ _ _) [.val (.scr ns), .val (encL ls), .own (gs.map Dt.int), .val (nat k), .un, .un, .un, .un, .un] = _
          rw [m_sif, hz, Rs.so_ok, if_pos rfl]
          have c : gs.length < 1000000 := by omega
          simp [sApp, c, nat]
        · intro i hi
          rcases List.mem_append.mp hi with hi | hi
          · exact hg i hi
          · cases List.mem_singleton.mp hi
            omega
      | false =>
        refine ⟨_, [.val (.scr ns), .val (encL ls), .own (gs.map Dt.int), .val (nat k), .un, .un, .un, .un, .un], rfl, .inl ?_, gs, .val (nat k), by omega, hg, (rfl : noExc [Sl.val (nat k)] = true), rfl⟩
        show (sIf _ _ _) [.val (.scr ns), .val (encL ls), .own (gs.map Dt.int), .val (nat k), .un, .un, .un, .un, .un] = _
        rw [m_sif, hz, Rs.so_ok]
        rfl)
  obtain ⟨E2, ⟨gs, x, hl, hg, hx, rfl⟩, e⟩ := h1
  rw [List.length_range] at hl
  rw [e, then_nx, m_seq, show sFz 2 [.val (.scr ns), .val (encL ls), .own (gs.map Dt.int), x, .un, .un, .un, .un, .un] = .nx [.val (.scr ns), .val (encL ls), .val (.lst (gs.map Dt.int)), x, .un, .un, .un, .un, .un] from rfl]
  rw [then_nx, m_seq, show sSet 4 (eCall 2 FD (eCons (eVar 0) (eCons (eC (.int 2)) (eNil)))) [.val (.scr ns), .val (encL ls), .val (.lst (gs.map Dt.int)), x, .un, .un, .un, .un, .un] = .nx [.val (.scr ns), .val (encL ls), .val (.lst (gs.map Dt.int)), x, .val (.int v), .un, .un, .un, .un] by simp [hd]]
  rw [then_nx, m_seq, show sOwn 5 (oLst (eNil)) [.val (.scr ns), .val (encL ls), .val (.lst (gs.map Dt.int)), x, .val (.int v), .un, .un, .un, .un] = .nx [.val (.scr ns), .val (encL ls), .val (.lst (gs.map Dt.int)), x, .val (.int v), .own [], .un, .un, .un] by simp]
  rw [then_nx, m_seq, m_for, hr _ rfl, Rs.so_ok]
  have h2 := forL_foldN (β := Unit) (t := .one 3) (g := (sSeq (sIf (bTest (eOp gEq (eOp gMod (eCB gInt (eCons (eVar 4) (eNil))) (eC (.int 3))) (eC (.int 1)))) (sApp 5 (eVar 3)) (sNop)) (sSet 4 (eOp gDiv (eVar 4) (eC (.int 3)))))) nat (fun _ _ => ())
    (fun m _ E => ∃ (ss : List Int) (x : Sl) (v : Int), ss.length ≤ m ∧ ne x ∧ E = [.val (.scr ns), .val (encL ls), .val (.lst (gs.map Dt.int)), x, .val (.int v), .own (ss.map Dt.int), .un, .un, .un]) (List.range ls.length) 0 () [.val (.scr ns), .val (encL ls), .val (.lst (gs.map Dt.int)), x, .val (.int v), .own [], .un, .un, .un] ⟨[], x, v, by simp, hx, rfl⟩ (by
      intro k hk m b E _ hm ⟨ss, x, v, hl, hx, hE⟩
      subst hE
      rw [List.length_range] at hm
      have c : ss.length < 1000000 := by omega
      by_cases q : v % 3 = 1
      · refine ⟨_, [.val (.scr ns), .val (encL ls), .val (.lst (gs.map Dt.int)), .val (nat k), .val (.int (v / 3)), .own ((ss ++ [(0 : Int) + (k : Int)]).map Dt.int), .un, .un, .un], rfl, .inl ?_, ss ++ [(0 : Int) + (k : Int)], .val (nat k), v / 3, by simp; omega, (rfl : noExc [Sl.val (nat k)] = true), rfl⟩
        show (sSeq _ _) [.val (.scr ns), .val (encL ls), .val (.lst (gs.map Dt.int)), .val (nat k), .val (.int v), .own (ss.map Dt.int), .un, .un, .un] = _
        simp [x3, z3, geq_int, q, sApp, c, nat]
      · refine ⟨_, [.val (.scr ns), .val (encL ls), .val (.lst (gs.map Dt.int)), .val (nat k), .val (.int (v / 3)), .own (ss.map Dt.int), .un, .un, .un], rfl, .inl ?_, ss, .val (nat k), v / 3, by omega, (rfl : noExc [Sl.val (nat k)] = true), rfl⟩
        show (sSeq _ _) [.val (.scr ns), .val (encL ls), .val (.lst (gs.map Dt.int)), .val (nat k), .val (.int v), .own (ss.map Dt.int), .un, .un, .un] = _
        simp [x3, z3, geq_int, q, c, nat])
  obtain ⟨E2, ⟨ss, y, v2, hl2, hy, rfl⟩, e⟩ := h2
  rw [List.length_range] at hl2
  rw [e, then_nx, m_seq, show sFz 5 [.val (.scr ns), .val (encL ls), .val (.lst (gs.map Dt.int)), y, .val (.int v2), .own (ss.map Dt.int), .un, .un, .un] = .nx [.val (.scr ns), .val (encL ls), .val (.lst (gs.map Dt.int)), y, .val (.int v2), .val (.lst (ss.map Dt.int)), .un, .un, .un] from rfl]
  have e3 := lc_eq (fi := iR1 (eCons (eCB gLen (eCons (eVar 1) (eNil))) (eNil))) (own := [3]) (t := .one 3) (ft := (bTest (eOp (gIn true) (eVar 3) (eVar 2)))) (fe := eVar 3) (E := [.val (.scr ns), .val (encL ls), .val (.lst (gs.map Dt.int)), y, .val (.int v2), .val (.lst (ss.map Dt.int)), .un, .un, .un]) (ds := (List.range ls.length).map nat) (r := ((List.range ls.length).filter fun k => !inb (nat k) (gs.map Dt.int)).map nat)
    (hr _ rfl) (by simp; omega) (by
      have hy : noExc [y] = true := hy
      cases y <;> first | rfl | (cases hy; done)) (by
      refine lcR_map (t := .one 3) nat (fun k => !inb (nat k) (gs.map Dt.int)) nat _ fun k hk => ⟨_, rfl, ?_, fun _ => rfl⟩
      have g : gIn true (nat k) (.lst (gs.map Dt.int)) = some (.bl (!inb (nat k) (gs.map Dt.int))) := by
        rw [gIn_lst, if_pos ⟨rfl, cmp_ints gs⟩]
        rfl
      simp [wipeE, g])
  rw [then_nx, m_seq, m_set, m_L, e3]
  generalize hlf : ((List.range ls.length).filter fun k => !inb (nat k) (gs.map Dt.int)) = lf
  have hll : lf.length ≤ 60 := by
    rw [← hlf]
    refine Nat.le_trans (List.length_filter_le _ _) ?_
    simpa using hn
  have em : lf.map nat = (lf.map fun (k : Nat) => (0 : Int) + (k : Int)).map Dt.int := by
    rw [List.map_map]
    rfl
  rw [em]
  have hli : (lf.map fun (k : Nat) => (0 : Int) + (k : Int)).length ≤ 60 := by simpa using hll
  generalize (lf.map fun (k : Nat) => (0 : Int) + (k : Int)) = li at *
  rw [Rs.bind_ok, Rs.so_ok, then_nx]
  obtain ⟨c1, hc1, hc1l⟩ := cut_ints gs (some (-1)) none
  have l1 : gs.length + c1.length ≤ 1000000 := by omega
  have e7 : sOwn 7 (oLst (eCons (eVar 2) (eCons (eVar 5) (eCons (eL (oRev (eVar 2))) (eCons (eOp gAdd (eVar 2) (eSl (eVar 2) (pSome (eUn gNeg (eC (.int 1)))) (pNone))) (eCons (eL (oLst (eCons (eCB gLen (eCons (eVar 1) (eNil))) (eNil)))) (eCons (eL (oLst (eCons (eUn gNeg (eC (.int 1))) (eNil)))) (eCons (eL (oLst (eNil))) (eCons (eL (oLst (eCons (eC (.bl false)) (eNil)))) (eCons (eL (oLst (eCons (eC (.bl false)) (eCons (eC (.bl true)) (eNil))))) (eNil)))))))))))
      (([.val (.scr ns), .val (encL ls), .val (.lst (gs.map Dt.int)), y, .val (.int v2), .val (.lst (ss.map Dt.int)), .un, .un, .un] : Ev).set 6 (.val (.lst (li.map Dt.int)))) = .nx [.val (.scr ns), .val (encL ls), .val (.lst (gs.map Dt.int)), y, .val (.int v2), .val (.lst (ss.map Dt.int)), .val (.lst (li.map Dt.int)),
        .own [.lst (gs.map Dt.int), .lst (ss.map Dt.int), .lst (gs.reverse.map Dt.int), .lst ((gs ++ c1).map Dt.int), .lst ([(ls.length : Int)].map Dt.int), .lst ([(-1 : Int)].map Dt.int), .lst [], .lst [.bl false], .lst [.bl false, .bl true]], .un] := by
    simp [hc1, l1]
  rw [m_seq, e7, then_nx, m_seq, m_for]
  obtain ⟨c2, hc2, hc2l⟩ := cut_ints li none (some 2)
  rw [show iL (eSl (eVar 6) (pNone) (pSome (eC (.int 2)))) [.val (.scr ns), .val (encL ls), .val (.lst (gs.map Dt.int)), y, .val (.int v2), .val (.lst (ss.map Dt.int)), .val (.lst (li.map Dt.int)),
        .own [.lst (gs.map Dt.int), .lst (ss.map Dt.int), .lst (gs.reverse.map Dt.int), .lst ((gs ++ c1).map Dt.int), .lst ([(ls.length : Int)].map Dt.int), .lst ([(-1 : Int)].map Dt.int), .lst [], .lst [.bl false], .lst [.bl false, .bl true]], .un] = .ok (c2.map Dt.int) by simp [hc2], Rs.so_ok]
  have h4 := forL_foldN (β := Unit) (t := .one 3) (g := (sApp 7 (eL (oCB gSorted (eCons (eOp gAdd (eVar 2) (eL (oLst (eCons (eVar 3) (eNil))))) (eNil)))))) Dt.int (fun _ _ => ())
    (fun m _ E => ∃ (L : List Dt) (x : Sl), L.length ≤ 9 + m ∧ (∀ d ∈ L, goodL d) ∧ E = [.val (.scr ns), .val (encL ls), .val (.lst (gs.map Dt.int)), x, .val (.int v2), .val (.lst (ss.map Dt.int)), .val (.lst (li.map Dt.int)), .own L, .un]) c2 0 ()
    [.val (.scr ns), .val (encL ls), .val (.lst (gs.map Dt.int)), y, .val (.int v2), .val (.lst (ss.map Dt.int)), .val (.lst (li.map Dt.int)), .own [.lst (gs.map Dt.int), .lst (ss.map Dt.int), .lst (gs.reverse.map Dt.int), .lst ((gs ++ c1).map Dt.int), .lst ([(ls.length : Int)].map Dt.int), .lst ([(-1 : Int)].map Dt.int), .lst [], .lst [.bl false], .lst [.bl false, .bl true]], .un]
    ⟨_, y, by simp, (by
      intro d hd
      simp only [List.mem_cons, List.not_mem_nil, or_false] at hd
      rcases hd with rfl | rfl | rfl | rfl | rfl | rfl | rfl | rfl | rfl
      · exact goodL_ints (by omega)
      · exact goodL_ints (by omega)
      · exact goodL_ints (by simp; omega)
      · exact goodL_ints (by simp; omega)
      · exact goodL_ints (by simp)
      · exact goodL_ints (by simp)
      · exact ⟨[], rfl, by simp, fun x h => by cases h⟩
      · exact ⟨_, rfl, by simp, fun x h => by
          cases List.mem_singleton.mp h
          exact .inr ⟨_, rfl⟩⟩
      · exact ⟨_, rfl, by simp, fun x h => by
          simp only [List.mem_cons, List.not_mem_nil, or_false] at h
          rcases h with rfl | rfl <;> exact .inr ⟨_, rfl⟩⟩), rfl⟩ (by
      intro k hk m b E _ hm ⟨L, x, hL, hg, hE⟩
      subst hE
      have cL : L.length < 1000000 := by omega
      have s1 := sorted_ints (gs ++ [k])
      rw [List.map_append] at s1
      have s1 : gSorted [.lst (gs.map Dt.int ++ [.int k])] = some ((isort (gs ++ [k])).map Dt.int) := s1
      have cg : gs.length + 1 ≤ 1000000 := by omega
      refine ⟨_, [.val (.scr ns), .val (encL ls), .val (.lst (gs.map Dt.int)), .val (.int k), .val (.int v2), .val (.lst (ss.map Dt.int)), .val (.lst (li.map Dt.int)), .own (L ++ [.lst ((isort (gs ++ [k])).map Dt.int)]), .un], rfl, .inl ?_, L ++ [.lst ((isort (gs ++ [k])).map Dt.int)], .val (.int k), by simp; omega, ?_, rfl⟩
      · show sApp 7 _ [.val (.scr ns), .val (encL ls), .val (.lst (gs.map Dt.int)), .val (.int k), .val (.int v2), .val (.lst (ss.map Dt.int)), .val (.lst (li.map Dt.int)), .own L, .un] = _
        simp [sApp, cg, s1, cL]
      · intro d hd
        rcases List.mem_append.mp hd with hd | hd
        · exact hg d hd
        · cases List.mem_singleton.mp hd
          exact goodL_ints (by rw [isort_len]; simp; omega))
  obtain ⟨E2, ⟨L, x, hL, hg, rfl⟩, e⟩ := h4
  refine ⟨L, ?_, by omega, hg⟩
  rw [e, then_nx]
  rfl
end k40
namespace k40
open PySem L2 PL
theorem geq_str (a b : Str) (z : Bool) (h : (a == b) = z) : gEq (.str a) (.str b) = some (.bl z) := by
  show (if cmpOk 60 (.str a) = true ∧ cmpOk 60 (.str b) = true then some (Dt.bl (PyData.eqv (.str a) (.str b))) else none) = _
  rw [if_pos ⟨rfl, rfl⟩]
  simp [PyData.eqv, h]
/-- what is due, case by case -/
inductive Due (sp : List (Int × Int)) : Prop where
  | many (h1 : dueD sp = .tup [.str "TooMany", .int 60, .bl true]) (h2 : chk sp = .err ⟨"TooMany", [("limit", .int 60)]⟩)
  | bad (k : Nat) (h1 : dueD sp = .tup [.str "BadLoad", nat k, .bl true]) (h2 : chk sp = .err ⟨"BadLoad", [("at", nat k)]⟩)
  | none (h1 : dueD sp = .tup [.str "none", .int 0, .bl false]) (h2 : chk sp = .ok .non)
theorem due_cases (sp : List (Int × Int)) : Due sp := by
  by_cases h : 60 < sp.length
  · refine .many ?_ ?_
    · unfold dueD
      rw [if_pos h]
    · unfold chk
      rw [if_pos h]
  · cases hf : firstBad sp with
    | none =>
      refine .none ?_ ?_
      · unfold dueD
        rw [if_neg h, hf]
      · unfold chk
        rw [if_neg h, hf]
    | some k =>
      refine .bad k ?_ ?_
      · unfold dueD
        rw [if_neg h, hf]
      · unfold chk
        rw [if_neg h, hf]
theorem due_self (x : Str) (hx : PyData.strOk x = true) (i : Int) (b : Bool) : gNe (.tup [.str x, .int i, .bl b]) (.tup [.str x, .int i, .bl b]) = some (.bl false) := gne_self (by simp [plainD, plainDL, hx]) (by simp [cmpOk, cmpOkL])
theorem sub_cmp {l : List Dt} (h : ∀ x ∈ l, isE x) : (∀ n, cmpOkL n l = true) ∧ plainDL l = true := by
  refine ⟨fun n => cmpL_of fun d hd => ?_, plainDL_of fun d hd => ?_⟩
  · rcases h d hd with ⟨i, rfl⟩ | ⟨b, rfl⟩ <;> simp [cmpOk]
  · rcases h d hd with ⟨i, rfl⟩ | ⟨b, rfl⟩ <;> simp [plainD]
theorem enc_cmp (ls : List (Int × Int)) : cmpOkL 58 (ls.map encP) = true ∧ plainDL (ls.map encP) = true := by
  refine ⟨cmpL_of fun d hd => ?_, plainDL_of fun d hd => pair_plain (encL_pair ls d hd)⟩
  obtain ⟨i, j, rfl⟩ := encL_pair ls d hd
  simp [cmpOk, cmpOkL]
/-- the loop over the twelve -/
theorem which_loop (FT : List Dt → Rs Dt) (d due : Dt) (g1 : gNe due due = some (.bl false)) (ht : ∀ w : Nat, w < 12 → FT [.int (w : Int), d] = .ok due) (a b c : Sl) :
    ∃ y, sFor (iR1 (eCons (eC (.int 12)) (eNil))) (.one 5) (sIf (bTest (eOp gNe (eCall 2 FT (eCons (eVar 5) (eCons (eVar 4) (eNil)))) (eVar 3))) (sRet (eC (.bl false))) (sNop)) [a, b, c, .val due, .val d, .un, .un, .un] = .nx [a, b, c, .val due, .val d, y, .un, .un] := by
  have k12 := kR1_nat (n := 12) (by omega)
  have k12 : kR1 [.int 12] = .ok (rng 0 12) := k12
  rw [m_for, show iR1 (eCons (eC (.int 12)) (eNil)) [a, b, c, .val due, .val d, .un, .un, .un] = .ok (rng 0 12) by simp [k12], Rs.so_ok, rng0]
  have hL := forL_find (t := .one 5) (g := (sIf (bTest (eOp gNe (eCall 2 FT (eCons (eVar 5) (eCons (eVar 4) (eNil)))) (eVar 3))) (sRet (eC (.bl false))) (sNop))) nat (fun _ => none) (fun E => ∃ y, E = [a, b, c, .val due, .val d, y, .un, .un]) (List.range 12) [a, b, c, .val due, .val d, .un, .un, .un] ⟨_, rfl⟩ (by
    intro w hw E hE
    obtain ⟨y, rfl⟩ := hE
    have hw := ht w (List.mem_range.mp hw)
    refine ⟨_, rfl, [a, b, c, .val due, .val d, .val (nat w), .un, .un], ⟨_, rfl⟩, .inl ?_⟩
    show (sIf _ _ _) [a, b, c, .val due, .val d, .val (nat w), .un, .un] = _
    rw [nat_eq]
    simp [hw, g1])
  have hN : (List.range 12).findSome? (fun _ => (none : Option (Rs Dt))) = none := by simp
  rw [hN] at hL
  obtain ⟨E2, ⟨y, rfl⟩, e⟩ := hL
  exact ⟨y, e⟩
theorem law_true : ∀ ns : List Int, ns.length ≤ 63 → f_law [.scr ns] = .ok (.bl true) := by
  intro ns _
  obtain ⟨ls, e1, hn, hv⟩ := loads_ok ns
  obtain ⟨sp, e2, hs⟩ := spoilt_ok ns ls hn
  have e3 := due_ok sp hs
  have CK := check_ok sp hs
  have TB := told_bad (d := encL sp)
  have TM := told_many (d := encL sp)
  have PR := pright_ok ls hn hv
  have CR := cright_ok ns ls hn hv
  obtain ⟨L, e4, hL, hg⟩ := lists_ok ns ls hn
  have FO : ∀ ch : List Dt, ch.length ≤ 1000000 → (∀ d ∈ ch, isE d) → _ := free_ok ls (hn := hn) (hv := hv)
  have DC := due_cases sp
  unfold f_law
  rw [m_run]
  unfold b_law
  generalize f__law_loads = F1 at *
  generalize f__law_spoilt = F2 at *
  generalize f__law_due = F3 at *
  generalize f_check_loads = F4 at *
  generalize f__law_told = F5 at *
  generalize f__law_pairs_right = F6 at *
  generalize f__law_crosses_right = F7 at *
  generalize f__law_lists = F8 at *
  generalize f_is_free = F9 at *
  generalize f__law_free = F10 at *
  rw [m_seq, show sSet 1 (eCall 1 F1 (eCons (eVar 0) (eNil))) (startE 8 [.scr ns]) = .nx [.val (.scr ns), .val (encL ls), .un, .un, .un, .un, .un, .un] by simp [startE, e1]]
  rw [then_nx, m_seq, show sSet 2 (eCall 2 F2 (eCons (eVar 0) (eCons (eVar 1) (eNil)))) [.val (.scr ns), .val (encL ls), .un, .un, .un, .un, .un, .un] = .nx [.val (.scr ns), .val (encL ls), .val (encL sp), .un, .un, .un, .un, .un] by simp [e2]]
  rw [then_nx, m_seq, show sSet 3 (eCall 1 F3 (eCons (eVar 2) (eNil))) [.val (.scr ns), .val (encL ls), .val (encL sp), .un, .un, .un, .un, .un] = .nx [.val (.scr ns), .val (encL ls), .val (encL sp), .val (dueD sp), .un, .un, .un, .un] by simp [e3]]
  rw [then_nx, m_seq, show sSet 4 (eL (oCB gList (eCons (eVar 2) (eNil)))) [.val (.scr ns), .val (encL ls), .val (encL sp), .val (dueD sp), .un, .un, .un, .un] = .nx [.val (.scr ns), .val (encL ls), .val (encL sp), .val (dueD sp), .val (encL sp), .un, .un, .un] by simp]
  have t0 : ∀ a b c : Dt, atI [a, b, c] 0 = some a := fun _ _ _ => rfl
  obtain ⟨due, y, e5⟩ : ∃ (due : Dt) (y : Sl), (sIf (bTest (eOp gEq (eOp gIx (eVar 3) (eC (.int 0))) (eC (.str "none")))) (sIf (bTest (eOp gIsNot (eCall 1 F4 (eCons (eVar 4) (eNil))) (eC .non))) (sRet (eC (.bl false))) (sNop)) (sFor (iR1 (eCons (eC (.int 12)) (eNil))) (.one 5) (sIf (bTest (eOp gNe (eCall 2 F5 (eCons (eVar 5) (eCons (eVar 4) (eNil)))) (eVar 3))) (sRet (eC (.bl false))) (sNop)))) [.val (.scr ns), .val (encL ls), .val (encL sp), .val (dueD sp), .val (encL sp), .un, .un, .un] = .nx [.val (.scr ns), .val (encL ls), .val (encL sp), .val due, .val (encL sp), y, .un, .un] := by
    cases DC with
    | many h1 h2 =>
      rw [h1]
      have q := geq_str "TooMany" "none" false (by decide)
      obtain ⟨y, hy⟩ := which_loop F5 (encL sp) (.tup [.str "TooMany", .int 60, .bl true]) (due_self _ (by decide +kernel) _ _) (fun w hw => TM w hw _ (CK.trans h2)) (.val (.scr ns)) (.val (encL ls)) (.val (encL sp))
      refine ⟨.tup [.str "TooMany", .int 60, .bl true], y, ?_⟩
      rw [← hy, m_sif, show bTest (eOp gEq (eOp gIx (eVar 3) (eC (.int 0))) (eC (.str "none"))) [.val (.scr ns), .val (encL ls), .val (encL sp), .val (.tup [.str "TooMany", .int 60, .bl true]), .val (encL sp), .un, .un, .un] = .ok false by simp [t0, q], Rs.so_ok]
      rfl
    | bad k h1 h2 =>
      rw [h1]
      have q := geq_str "BadLoad" "none" false (by decide)
      obtain ⟨y, hy⟩ := which_loop F5 (encL sp) (.tup [.str "BadLoad", nat k, .bl true]) (due_self _ (by decide +kernel) _ _) (fun w hw => TB w hw _ (CK.trans h2)) (.val (.scr ns)) (.val (encL ls)) (.val (encL sp))
      refine ⟨.tup [.str "BadLoad", nat k, .bl true], y, ?_⟩
      rw [← hy, m_sif, show bTest (eOp gEq (eOp gIx (eVar 3) (eC (.int 0))) (eC (.str "none"))) [.val (.scr ns), .val (encL ls), .val (encL sp), .val (.tup [.str "BadLoad", nat k, .bl true]), .val (encL sp), .un, .un, .un] = .ok false by simp [t0, q], Rs.so_ok]
      rfl
    | none h1 h2 =>
      rw [h1]
      have q := geq_str "none" "none" true (by decide)
      have c := CK.trans h2
      refine ⟨.tup [.str "none", .int 0, .bl false], .un, ?_⟩
      rw [m_sif, show bTest (eOp gEq (eOp gIx (eVar 3) (eC (.int 0))) (eC (.str "none"))) [.val (.scr ns), .val (encL ls), .val (encL sp), .val (.tup [.str "none", .int 0, .bl false]), .val (encL sp), .un, .un, .un] = .ok true by simp [t0, q], Rs.so_ok, if_pos rfl]
      simp [c]
  rw [then_nx, m_seq, e5, then_nx, m_seq]
  rw [show (sIf (bOr (bTest (eOp gNe (eVar 4) (eVar 2))) (bOr (bNot (bTest (eCall 1 F6 (eCons (eVar 1) (eNil))))) (bNot (bTest (eCall 2 F7 (eCons (eVar 0) (eCons (eVar 1) (eNil)))))))) (sRet (eC (.bl false))) (sNop)) [.val (.scr ns), .val (encL ls), .val (encL sp), .val due, .val (encL sp), y, .un, .un] = .nx [.val (.scr ns), .val (encL ls), .val (encL sp), .val due, .val (encL sp), y, .un, .un] by
    have g := lst_self (encL_pair sp)
    simp [g, PR, CR]]
  rw [then_nx, m_seq, m_for, show iL (eCall 2 F8 (eCons (eVar 0) (eCons (eVar 1) (eNil)))) [.val (.scr ns), .val (encL ls), .val (encL sp), .val due, .val (encL sp), y, .un, .un] = .ok L by simp [e4], Rs.so_ok]
  have hL := forL_find (t := .one 6) (g := (sSeq (sSet 4 (eL (oLst (eCons (eL (oCB gList (eCons (eVar 1) (eNil)))) (eCons (eL (oCB gList (eCons (eVar 6) (eNil)))) (eNil)))))) (sSeq (sSet 7 (eCall 2 F9 (eCons (eOp gIx (eVar 4) (eC (.int 0))) (eCons (eOp gIx (eVar 4) (eC (.int 1))) (eNil))))) (sIf (bOr (bNot (bTest (eCB gIsi (eCons (eVar 7) (eCons (eC (.ty "bool")) (eNil)))))) (bOr (bTest (eOp gNe (eVar 7) (eCall 2 F10 (eCons (eVar 1) (eCons (eVar 6) (eNil)))))) (bTest (eOp gNe (eVar 4) (eL (oLst (eCons (eVar 1) (eCons (eVar 6) (eNil))))))))) (sRet (eC (.bl false))) (sNop)))))
    id (fun _ => none) (fun E => ∃ a b c d, E = [.val (.scr ns), .val (encL ls), .val (encL sp), .val due, a, b, c, d]) L [.val (.scr ns), .val (encL ls), .val (encL sp), .val due, .val (encL sp), y, .un, .un] ⟨_, _, _, _, rfl⟩ (by
      intro d hd E hE
      obtain ⟨a, b, c, d', rfl⟩ := hE
      obtain ⟨l, rfl, hl, he⟩ := hg d hd
      obtain ⟨z, f1, f2⟩ := FO l hl he
      have g1 := gne_bl z
      have g2 := isi_bb z
      obtain ⟨p1, p2⟩ := sub_cmp he
      obtain ⟨p3, p4⟩ := enc_cmp ls
      have g3 : gNe (.lst [encL ls, .lst l]) (.lst [encL ls, .lst l]) = some (.bl false) := gne_self (by simp [plainD, plainDL, p2, p4]) (by simp [cmpOk, cmpOkL, p1, p3])
      refine ⟨_, rfl, [.val (.scr ns), .val (encL ls), .val (encL sp), .val due, .val (.lst [encL ls, .lst l]), b, .val (.lst l), .val (.bl z)], ⟨_, _, _, _, rfl⟩, .inl ?_⟩
      show (sSeq _ _) [.val (.scr ns), .val (encL ls), .val (encL sp), .val due, a, b, .val (.lst l), d'] = _
      rw [m_seq, show sSet 4 (eL (oLst (eCons (eL (oCB gList (eCons (eVar 1) (eNil)))) (eCons (eL (oCB gList (eCons (eVar 6) (eNil)))) (eNil))))) [.val (.scr ns), .val (encL ls), .val (encL sp), .val due, a, b, .val (.lst l), d'] = .nx [.val (.scr ns), .val (encL ls), .val (encL sp), .val due, .val (.lst [encL ls, .lst l]), b, .val (.lst l), d'] by simp, then_nx, m_seq]
      rw [show sSet 7 (eCall 2 F9 (eCons (eOp gIx (eVar 4) (eC (.int 0))) (eCons (eOp gIx (eVar 4) (eC (.int 1))) (eNil)))) [.val (.scr ns), .val (encL ls), .val (encL sp), .val due, .val (.lst [encL ls, .lst l]), b, .val (.lst l), d'] = .nx [.val (.scr ns), .val (encL ls), .val (encL sp), .val due, .val (.lst [encL ls, .lst l]), b, .val (.lst l), .val (.bl z)] by simp [f1], then_nx]
      simp [g1, g2, g3, f2])
  have hN : L.findSome? (fun _ => (none : Option (Rs Dt))) = none := by simp
  rw [hN, List.map_id] at hL
  obtain ⟨E2, ⟨a, b, c, d, rfl⟩, e⟩ := hL
  rw [e, then_nx]
  simp
end k40
open PySem PySem.W PyProof.Rows
set_option maxHeartbeats 0 in
theorem PySem.Challenge.cw_waybill_k40_loads_and_crossings_holds : PySem.Challenge.rw_waybill_k40_loads_and_crossings.Holds := by
  w_on; o_law; k_head; (case hw => w_witness2)
  k_fill
  refine L2.walk_of (l := PySem.Challenge.rw_waybill_k40_loads_and_crossings) (n := 63) (k := 8) (x := "script") (CX := fun w => L2.CX (PySem.Challenge.rw_waybill_k40_loads_and_crossings).prog w) (sp := fun w => PL.spLaw _) rfl (by decide) rfl ⟨rfl, by decide, by decide⟩ (fun w h Y => PySem.W.kIn_of Y) ?F (fun _ _ a ns hl _ hS => ⟨a, ns, rfl, hl, hS, fun _ => rfl⟩) (fun _ _ _ _ _ h => by obtain ⟨_, _, _, _, _, _, _, _, _, _, _, _, z⟩ := h; exact z)
  case F =>
    intro w mg fa h KX G hmg
    refine k40.all_mk KX G hmg ?_ k40.law_true
    refine' k40.Facts.mk ?d__law_cell ?d__law_draw ?d__law_load ?d__law_loads ?d__law_bad ?d__law_spoilt ?d__law_due ?d_is_number ?d_check_loads ?d_do_cross ?d_crossing_pairs ?d_is_choice ?d_is_free ?d_check_stowage ?d_run_stowage ?d_one_bay ?d_check_worths ?d_most_in_one_bay ?d_check_fixed ?d_two_bays ?d_is_bays ?d_is_odd_ring ?d_is_bad_path ?d_count_bays ?d_shortest_odd_ring ?d__law_call ?d__law_told ?d__law_cross ?d__law_is_integer ?d__law_pairs_right ?d_crosses ?d__law_refused_at ?d__law_crosses_right ?d__law_lists ?d__law_free ?d_law ?z_ValueError ?z_bool ?z_int ?z_isinstance ?z_len ?z_list ?z_max ?z_min ?z_range ?z_sorted ?z_super ?c_MOST_LOADS ?c_MOST_STOP ?e_BadLoad ?e_TooMany ?x_BadLoad ?x_TooMany ?p_BadLoad_BadLoad ?p_TooMany_BadLoad ?p_TooMany_TooMany ?k_BadLoad_ValueError ?k_TooMany_ValueError ?k_BadLoad_WaybillError ?k_TooMany_WaybillError
    case d__law_cell =>
      refine' PL.factF_mk ?a ?l ?c ?k
      (case a => k_is); (case l => k_is); (case c => k_is); (case k => k_is)
    case d__law_draw =>
      refine' PL.factF_mk ?a ?l ?c ?k
      (case a => k_is); (case l => k_is); (case c => k_is); (case k => k_is)
    case d__law_load =>
      refine' PL.factF_mk ?a ?l ?c ?k
      (case a => k_is); (case l => k_is); (case c => k_is); (case k => k_is)
    case d__law_loads =>
      refine' PL.factF_mk ?a ?l ?c ?k
      (case a => k_is); (case l => k_is); (case c => k_is); (case k => k_is)
    case d__law_bad =>
      refine' PL.factF_mk ?a ?l ?c ?k
      (case a => k_is); (case l => k_is); (case c => k_is); (case k => k_is)
    case d__law_spoilt =>
      refine' PL.factF_mk ?a ?l ?c ?k
      (case a => k_is); (case l => k_is); (case c => k_is); (case k => k_is)
    case d__law_due =>
      refine' PL.factF_mk ?a ?l ?c ?k
      (case a => k_is); (case l => k_is); (case c => k_is); (case k => k_is)
    case d_is_number =>
      refine' PL.factF_mk ?a ?l ?c ?k
      (case a => k_is); (case l => k_is); (case c => k_is); (case k => k_is)
    case d_check_loads =>
      refine' PL.factF_mk ?a ?l ?c ?k
      (case a => k_is); (case l => k_is); (case c => k_is); (case k => k_is)
    case d_do_cross =>
      refine' PL.factF_mk ?a ?l ?c ?k
      (case a => k_is); (case l => k_is); (case c => k_is); (case k => k_is)
    case d_crossing_pairs =>
      refine' PL.factF_mk ?a ?l ?c ?k
      (case a => k_is); (case l => k_is); (case c => k_is); (case k => k_is)
    case d_is_choice =>
      refine' PL.factF_mk ?a ?l ?c ?k
      (case a => k_is); (case l => k_is); (case c => k_is); (case k => k_is)
    case d_is_free =>
      refine' PL.factF_mk ?a ?l ?c ?k
      (case a => k_is); (case l => k_is); (case c => k_is); (case k => k_is)
    case d_check_stowage =>
      refine' PL.factF_mk ?a ?l ?c ?k
      (case a => k_is); (case l => k_is); (case c => k_is); (case k => k_is)
    case d_run_stowage =>
      refine' PL.factF_mk ?a ?l ?c ?k
      (case a => k_is); (case l => k_is); (case c => k_is); (case k => k_is)
    case d_one_bay =>
      refine' PL.factF_mk ?a ?l ?c ?k
      (case a => k_is); (case l => k_is); (case c => k_is); (case k => k_is)
    case d_check_worths =>
      refine' PL.factF_mk ?a ?l ?c ?k
      (case a => k_is); (case l => k_is); (case c => k_is); (case k => k_is)
    case d_most_in_one_bay =>
      refine' PL.factF_mk ?a ?l ?c ?k
      (case a => k_is); (case l => k_is); (case c => k_is); (case k => k_is)
    case d_check_fixed =>
      refine' PL.factF_mk ?a ?l ?c ?k
      (case a => k_is); (case l => k_is); (case c => k_is); (case k => k_is)
    case d_two_bays =>
      refine' PL.factF_mk ?a ?l ?c ?k
      (case a => k_is); (case l => k_is); (case c => k_is); (case k => k_is)
    case d_is_bays =>
      refine' PL.factF_mk ?a ?l ?c ?k
      (case a => k_is); (case l => k_is); (case c => k_is); (case k => k_is)
    case d_is_odd_ring =>
      refine' PL.factF_mk ?a ?l ?c ?k
      (case a => k_is); (case l => k_is); (case c => k_is); (case k => k_is)
    case d_is_bad_path =>
      refine' PL.factF_mk ?a ?l ?c ?k
      (case a => k_is); (case l => k_is); (case c => k_is); (case k => k_is)
    case d_count_bays =>
      refine' PL.factF_mk ?a ?l ?c ?k
      (case a => k_is); (case l => k_is); (case c => k_is); (case k => k_is)
    case d_shortest_odd_ring =>
      refine' PL.factF_mk ?a ?l ?c ?k
      (case a => k_is); (case l => k_is); (case c => k_is); (case k => k_is)
    case d__law_call =>
      refine' PL.factF_mk ?a ?l ?c ?k
      (case a => k_is); (case l => k_is); (case c => k_is); (case k => k_is)
    case d__law_told =>
      refine' PL.factF_mk ?a ?l ?c ?k
      (case a => k_is); (case l => k_is); (case c => k_is); (case k => k_is)
    case d__law_cross =>
      refine' PL.factF_mk ?a ?l ?c ?k
      (case a => k_is); (case l => k_is); (case c => k_is); (case k => k_is)
    case d__law_is_integer =>
      refine' PL.factF_mk ?a ?l ?c ?k
      (case a => k_is); (case l => k_is); (case c => k_is); (case k => k_is)
    case d__law_pairs_right =>
      refine' PL.factF_mk ?a ?l ?c ?k
      (case a => k_is); (case l => k_is); (case c => k_is); (case k => k_is)
    case d_crosses =>
      refine' PL.factF_mk ?a ?l ?c ?k
      (case a => k_is); (case l => k_is); (case c => k_is); (case k => k_is)
    case d__law_refused_at =>
      refine' PL.factF_mk ?a ?l ?c ?k
      (case a => k_is); (case l => k_is); (case c => k_is); (case k => k_is)
    case d__law_crosses_right =>
      refine' PL.factF_mk ?a ?l ?c ?k
      (case a => k_is); (case l => k_is); (case c => k_is); (case k => k_is)
    case d__law_lists =>
      refine' PL.factF_mk ?a ?l ?c ?k
      (case a => k_is); (case l => k_is); (case c => k_is); (case k => k_is)
    case d__law_free =>
      refine' PL.factF_mk ?a ?l ?c ?k
      (case a => k_is); (case l => k_is); (case c => k_is); (case k => k_is)
    case d_law =>
      refine' PL.factF_mk ?a ?l ?c ?k
      (case a => k_is); (case l => k_is); (case c => k_is); (case k => k_is)
    case z_ValueError => k_is
    case z_bool => k_is
    case z_int => k_is
    case z_isinstance => k_is
    case z_len => k_is
    case z_list => k_is
    case z_max => k_is
    case z_min => k_is
    case z_range => k_is
    case z_sorted => k_is
    case z_super => k_is
    case c_MOST_LOADS =>
      refine' PL.factI_mk ?a
      (case a => k_is)
    case c_MOST_STOP =>
      refine' PL.factI_mk ?a
      (case a => k_is)
    case e_BadLoad =>
      refine' PL.factE_mk ?a ?lC ?hW ?sa ?exC ?tyC ?kC ?mr ?lW ?fW ?ve ?iC ?tI ?lI ?lcd ?hvs ?hfi ?cd ?lcc ?cls ?top ?noTP ?nf
      (case a => k_is); (case lC => k_is); (case hW => decide +kernel); (case sa => k_is); (case exC => k_is); (case tyC => k_is); (case kC => k_is); (case mr => k_is); (case lW => k_is); (case fW => k_is); (case ve => k_is); (case iC => k_is); (case tI => k_is); (case lI => k_is); (case lcd => k_is); (case hvs => rfl); (case hfi => kernel_rfl); (case cd => k_is); (case lcc => k_is); (case cls => k_is); (case top => decide +kernel); (case noTP => k_is); (case nf => k_is)
    case e_TooMany =>
      refine' PL.factE_mk ?a ?lC ?hW ?sa ?exC ?tyC ?kC ?mr ?lW ?fW ?ve ?iC ?tI ?lI ?lcd ?hvs ?hfi ?cd ?lcc ?cls ?top ?noTP ?nf
      (case a => k_is); (case lC => k_is); (case hW => decide +kernel); (case sa => k_is); (case exC => k_is); (case tyC => k_is); (case kC => k_is); (case mr => k_is); (case lW => k_is); (case fW => k_is); (case ve => k_is); (case iC => k_is); (case tI => k_is); (case lI => k_is); (case lcd => k_is); (case hvs => rfl); (case hfi => kernel_rfl); (case cd => k_is); (case lcc => k_is); (case cls => k_is); (case top => decide +kernel); (case noTP => k_is); (case nf => k_is)
    case x_BadLoad =>
      refine' PL.factC_mk ?a ?ga ?gg ?ex ?hd ?ha ?hn ?ht ?hm ?nf
      (case a => k_is); (case ga => k_is); (case gg => k_is); (case ex => k_is); (case hd => k_is); (case ha => k_is); (case hn => k_is); (case ht => k_is); (case hm => k_is); (case nf => k_is)
    case x_TooMany =>
      refine' PL.factC_mk ?a ?ga ?gg ?ex ?hd ?ha ?hn ?ht ?hm ?nf
      (case a => k_is); (case ga => k_is); (case gg => k_is); (case ex => k_is); (case hd => k_is); (case ha => k_is); (case hn => k_is); (case ht => k_is); (case hm => k_is); (case nf => k_is)
    case p_BadLoad_BadLoad =>
      refine' PL.factP_mk ?a ?c ?h1 ?h2 ?h3 ?e
      (case a => k_is); (case c => k_is); (case h1 => k_is); (case h2 => k_is); (case h3 => k_is); (case e => first | rfl | k_is)
    case p_TooMany_BadLoad =>
      refine' PL.factP_mk ?a ?c ?h1 ?h2 ?h3 ?e
      (case a => k_is); (case c => k_is); (case h1 => k_is); (case h2 => k_is); (case h3 => k_is); (case e => first | rfl | k_is)
    case p_TooMany_TooMany =>
      refine' PL.factP_mk ?a ?c ?h1 ?h2 ?h3 ?e
      (case a => k_is); (case c => k_is); (case h1 => k_is); (case h2 => k_is); (case h3 => k_is); (case e => first | rfl | k_is)
    case k_BadLoad_ValueError =>
      refine' PL.factB_mk ?a ?m ?e
      (case a => k_is); (case m => decide +kernel); (case e => k_is)
    case k_TooMany_ValueError =>
      refine' PL.factB_mk ?a ?m ?e
      (case a => k_is); (case m => decide +kernel); (case e => k_is)
    case k_BadLoad_WaybillError =>
      refine' PL.factK_mk ?a ?c ?ne ?h2 ?h3 ?e
      (case a => k_is); (case c => k_is); (case ne => decide +kernel); (case h2 => k_is); (case h3 => k_is); (case e => k_is)
    case k_TooMany_WaybillError =>
      refine' PL.factK_mk ?a ?c ?ne ?h2 ?h3 ?e
      (case a => k_is); (case c => k_is); (case ne => decide +kernel); (case h2 => k_is); (case h3 => k_is); (case e => k_is)
