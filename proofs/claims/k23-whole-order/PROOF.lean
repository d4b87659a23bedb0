import PyProof.Rows.All
import Wide.All
import OpenK.AllK
import Wide.FinOn
import HandS.ForMost
import HandS.Zip
import HandS.Defaults
import HandS.Deep
import HandS.Style
import HandS.TupAny
import HandS.TupLe
import HandS.Conv
import HandS.IsInst
import HandS.DictComp
import KE.KDictKeyed
import KE.KDictCopyH
import KE.LtData
import PyProof.NeKinds
import KE.GoesMore
import KE.GoesEnum
import HandS.TryOnly
import HandS.HeadHook2
import HandS.HeadEnd
import PySem.Challenge.RW_lateposts_k23_whole_order_of_receivers
import KE.KStateDown
import HandS.Head0
import HandS.Head1
import HandS.Head2
import HandS.HeadHook1
import HandS.Ends
section
set_option Elab.async false
set_option linter.all false
set_option maxRecDepth 100000
set_option autoImplicit false
/-! The data layer: values as plain data D; what stands for a datum in an abstract heap. -/
namespace DL
open PySem PySem.Spec
open PyProof.Rows hiding St
open L2

/-- plain data: immutable tuples, lists by their items, nodes, dicts by keys and values -/
inductive D where
  | non | bl (b : Bool) | int (i : Int) | str (x : Str)
  | tup (xs : List D) | lst (xs : List D)
  | node (k b s t : D)
  | dic (ks ws : List D)
  | opq (ns : List Int)

structure Gp where
  prog : Program
  w : World
  cN : Addr
  K : PySem.W.Frag

/-! ### keys -/
mutual
def nk : D → NestedKey
  | .non => .none
  | .bl _ => .none
  | .int i => .num i
  | .str x => .text x
  | .tup xs => .tup (nkL xs)
  | .lst _ => .none
  | .node _ _ _ _ => .none
  | .dic _ _ => .none
  | .opq _ => .none
def nkL : List D → List NestedKey
  | [] => []
  | x :: xs => nk x :: nkL xs
end
mutual
def isK : D → Bool
  | .non => true
  | .bl _ => false
  | .int _ => true
  | .str _ => true
  | .tup xs => isKL xs
  | .lst _ => false
  | .node _ _ _ _ => false
  | .dic _ _ => false
  | .opq _ => false
def isKL : List D → Bool
  | [] => true
  | x :: xs => isK x && isKL xs
end
mutual
theorem nk_inj : ∀ x y : D, isK x = true → isK y = true → nk x = nk y → x = y
  | .non, y, _, hy, h => by cases y <;> simp_all [nk, isK]
  | .bl _, y, hx, _, _ => by simp [isK] at hx
  | .int i, y, _, hy, h => by cases y <;> simp_all [nk, isK]
  | .str i, y, _, hy, h => by cases y <;> simp_all [nk, isK]
  | .tup xs, y, hx, hy, h => by
    cases y with
    | tup ys =>
      have h' : nkL xs = nkL ys := by simpa [nk] using h
      rw [nkL_inj xs ys (by simpa [isK] using hx) (by simpa [isK] using hy) h']
    | _ => simp_all [nk, isK]
  | .lst _, y, hx, _, _ => by simp [isK] at hx
  | .node _ _ _ _, y, hx, _, _ => by simp [isK] at hx
  | .dic _ _, y, hx, _, _ => by simp [isK] at hx
  | .opq _, y, hx, _, _ => by simp [isK] at hx
theorem nkL_inj : ∀ xs ys : List D, isKL xs = true → isKL ys = true → nkL xs = nkL ys → xs = ys
  | [], [], _, _, _ => rfl
  | [], y :: ys, _, _, h => by simp [nkL] at h
  | x :: xs, [], _, _, h => by simp [nkL] at h
  | x :: xs, y :: ys, hx, hy, h => by
    simp only [isKL, Bool.and_eq_true] at hx hy
    simp only [nkL, List.cons.injEq] at h
    rw [nk_inj x y hx.1 hy.1 h.1, nkL_inj xs ys hx.2 hy.2 h.2]
end
/-- a tuple that may be a dict's key -/
def keyOk : D → Bool
  | .tup xs => isKL xs && decide ((nk (.tup xs)).depth ≤ 8)
  | _ => false

/-! ### as data that compare -/
mutual
def py : D → PyData
  | .non => .none
  | .bl b => .bool b
  | .int i => .int i
  | .str x => .str x
  | .tup xs => .tuple (pyL xs)
  | .lst xs => .list (pyL xs)
  | .node _ _ _ _ => .none
  | .dic _ _ => .none
  | .opq _ => .none
def pyL : List D → List PyData
  | [] => []
  | x :: xs => py x :: pyL xs
end
mutual
def isPy : D → Bool
  | .non => true
  | .bl _ => true
  | .int _ => true
  | .str _ => true
  | .tup xs => isPyL xs
  | .lst xs => isPyL xs
  | .node _ _ _ _ => false
  | .dic _ _ => false
  | .opq _ => false
def isPyL : List D → Bool
  | [] => true
  | x :: xs => isPy x && isPyL xs
end

/-- a list of the module -/
def KLs (K : PySem.W.Frag) (a : Addr) (xs : List V) : Prop := ∃ (o : Obj) (its : Array Value) (n : Nat), K.lookup a = some o ∧ o.cls = .type "list" ∧ o.dict = none ∧ o.data = .seq its n ∧ its.size ≤ sizeLine ∧ Vals xs its.toList
/-! ### what stands for a datum -/
mutual
def Sd (G : Gp) (R : Addr → Prop) (H : Hp) : D → V → Prop
  | .non, v => v = .non
  | .bl b, v => v = .bl b
  | .int i, v => v = .int i
  | .str x, v => v = .str x
  | .tup ds, v => ∃ a vs, v = .ref a ∧ H a = some (.tup vs) ∧ SdL G R H ds vs
  | .lst ds, v => ∃ a vs, v = .ref a ∧ H a = some (.lst vs) ∧ R a ∧ SdL G R H ds vs
  | .node k b s t, v => ∃ a dx vk vb vs vt, v = .ref a ∧ H a = some (.ins G.cN dx [("key", vk), ("before", vb), ("step", vs), ("is_taken", vt)]) ∧
      Sd G R H k vk ∧ Sd G R H b vb ∧ Sd G R H s vs ∧ Sd G R H t vt
  | .dic ks ws, v => ∃ a o es ep, ∃ xs : List (NestedKey × Addr × Value), ∃ vws, v = .ref a ∧ (a == sysModules) = false ∧ H a = some (.ext fun h => h.get? a = some o) ∧ R a ∧
      o.ExactDict ∧ o.data = .dict es ep ∧ es.toList = xs.map (entryOfKey (nestedKind G.prog G.w)) ∧ (xs.map (·.1)).Nodup ∧ xs.length ≤ sizeLine ∧
      nkL ks = xs.map (·.1) ∧ ks.all keyOk = true ∧ SdL G R H ks (xs.map fun x => V.ref x.2.1) ∧ SdL G R H ws vws ∧ Vals vws (xs.map (·.2.2))
  | .opq ns, v => ∃ a, v = .ref a ∧ ((H a = some (.lst (ns.map V.int)) ∧ R a) ∨ (∃ o, H a = some (.frz o (.lst (ns.map V.int)))) ∨ KLs G.K a (ns.map V.int))
def SdL (G : Gp) (R : Addr → Prop) (H : Hp) : List D → List V → Prop
  | [], vs => vs = []
  | d :: ds, vs => ∃ v vr, vs = v :: vr ∧ Sd G R H d v ∧ SdL G R H ds vr
end
section
variable {G : Gp} {R R' : Addr → Prop} {H H' : Hp}
/-- what moves a datum from one heap to another -/
def mutK : HO → Bool
  | .lst _ => true
  | .ext _ => true
  | _ => false
def Mv (R R' : Addr → Prop) (H H' : Hp) : Prop := ∀ b u, H b = some u → (mutK u = false → H' b = some u) ∧ (mutK u = true → R b → H' b = some u ∧ R' b)
mutual
theorem Sd.mv (m : Mv R R' H H') : ∀ (d : D) (v : V), Sd G R H d v → Sd G R' H' d v
  | .non, _, h => h
  | .bl _, _, h => h
  | .int _, _, h => h
  | .str _, _, h => h
  | .tup ds, v, h => by
    obtain ⟨a, vs, e, ha, hs⟩ := h
    exact ⟨a, vs, e, (m a _ ha).1 rfl, SdL.mv m ds vs hs⟩
  | .lst ds, v, h => by
    obtain ⟨a, vs, e, ha, hr, hs⟩ := h
    have q := (m a _ ha).2 rfl hr
    exact ⟨a, vs, e, q.1, q.2, SdL.mv m ds vs hs⟩
  | .node k b s t, v, h => by
    obtain ⟨a, dx, vk, vb, vs, vt, e, ha, h1, h2, h3, h4⟩ := h
    exact ⟨a, dx, vk, vb, vs, vt, e, (m a _ ha).1 rfl, Sd.mv m k vk h1, Sd.mv m b vb h2, Sd.mv m s vs h3, Sd.mv m t vt h4⟩
  | .dic ks ws, v, h => by
    obtain ⟨a, o, es, ep, xs, vws, e, hm, ha, hr, ho, hd, he, hn, hz, hk, hko, h1, h2, h3⟩ := h
    have q := (m a _ ha).2 rfl hr
    exact ⟨a, o, es, ep, xs, vws, e, hm, q.1, q.2, ho, hd, he, hn, hz, hk, hko, SdL.mv m ks _ h1, SdL.mv m ws _ h2, h3⟩
  | .opq ns, v, h => by
    obtain ⟨a, e, ha⟩ := h
    refine ⟨a, e, ?_⟩
    rcases ha with ⟨ha, hr⟩ | ⟨o, ha⟩ | ha
    · exact .inl ((m a _ ha).2 rfl hr)
    · exact .inr (.inl ⟨o, (m a _ ha).1 rfl⟩)
    · exact .inr (.inr ha)
theorem SdL.mv (m : Mv R R' H H') : ∀ (ds : List D) (vs : List V), SdL G R H ds vs → SdL G R' H' ds vs
  | [], _, h => h
  | d :: ds, _, h => by
    obtain ⟨v, vr, e, h1, h2⟩ := h
    exact ⟨v, vr, e, Sd.mv m d v h1, SdL.mv m ds vr h2⟩
end
theorem SdL.length : ∀ {ds : List D} {vs : List V}, SdL G R H ds vs → vs.length = ds.length
  | [], _, h => by rw [show _ = [] from h]; rfl
  | d :: ds, _, h => by
    obtain ⟨v, vr, e, _, h2⟩ := h
    rw [e, List.length_cons, List.length_cons, SdL.length h2]
theorem SdL.get : ∀ {ds : List D} {vs : List V} {i : Nat} {d : D}, SdL G R H ds vs → ds[i]? = some d → ∃ v, vs[i]? = some v ∧ Sd G R H d v
  | [], _, _, _, _, e => by simp at e
  | d :: ds, _, 0, _, h, e => by
    obtain ⟨v, vr, e', h1, _⟩ := h
    subst e'
    simp at e
    subst e
    exact ⟨v, rfl, h1⟩
  | d :: ds, _, i + 1, _, h, e => by
    obtain ⟨v, vr, e', _, h2⟩ := h
    subst e'
    obtain ⟨v, q1, q2⟩ := SdL.get (i := i) h2 (by simpa using e)
    exact ⟨v, by simpa using q1, q2⟩
theorem SdL.append : ∀ {ds es : List D} {vs us : List V}, SdL G R H ds vs → SdL G R H es us → SdL G R H (ds ++ es) (vs ++ us)
  | [], _, _, _, h, k => by rw [show _ = [] from h]; exact k
  | d :: ds, _, _, _, h, k => by
    obtain ⟨v, vr, e, h1, h2⟩ := h
    subst e
    exact ⟨v, vr ++ _, rfl, h1, SdL.append h2 k⟩
theorem SdL.take : ∀ {ds : List D} {vs : List V} (n : Nat), SdL G R H ds vs → SdL G R H (ds.take n) (vs.take n)
  | _, _, 0, _ => by show SdL G R H [] _; rfl
  | [], _, n + 1, h => by rw [show _ = [] from h]; rfl
  | d :: ds, _, n + 1, h => by
    obtain ⟨v, vr, e, h1, h2⟩ := h
    subst e
    exact ⟨v, _, rfl, h1, SdL.take n h2⟩
theorem SdL.drop : ∀ {ds : List D} {vs : List V} (n : Nat), SdL G R H ds vs → SdL G R H (ds.drop n) (vs.drop n)
  | _, _, 0, h => h
  | [], _, n + 1, h => by rw [show _ = [] from h]; rfl
  | d :: ds, _, n + 1, h => by
    obtain ⟨v, vr, e, h1, h2⟩ := h
    subst e
    exact SdL.drop n h2
theorem SdL.set {x : D} {y : V} (q : Sd G R H x y) : ∀ {ds : List D} {vs : List V} (n : Nat), SdL G R H ds vs → SdL G R H (ds.set n x) (vs.set n y)
  | [], _, _, h => by rw [show _ = [] from h]; rfl
  | d :: ds, _, 0, h => by
    obtain ⟨v, vr, e, h1, h2⟩ := h
    subst e
    exact ⟨y, vr, rfl, q, h2⟩
  | d :: ds, _, n + 1, h => by
    obtain ⟨v, vr, e, h1, h2⟩ := h
    subst e
    exact ⟨v, _, rfl, h1, SdL.set q n h2⟩
theorem SdL.reverse : ∀ {ds : List D} {vs : List V}, SdL G R H ds vs → SdL G R H ds.reverse vs.reverse
  | [], _, h => by rw [show _ = [] from h]; rfl
  | d :: ds, _, h => by
    obtain ⟨v, vr, e, h1, h2⟩ := h
    subst e
    rw [List.reverse_cons, List.reverse_cons]
    exact SdL.append (SdL.reverse h2) ⟨v, [], rfl, h1, rfl⟩
theorem SdL.one {d : D} {v : V} (h : Sd G R H d v) : SdL G R H [d] [v] := ⟨v, [], rfl, h, rfl⟩
theorem SdL.snoc {ds : List D} {vs : List V} {d : D} {v : V} (h : SdL G R H ds vs) (k : Sd G R H d v) : SdL G R H (ds ++ [d]) (vs ++ [v]) := h.append (SdL.one k)

/-- only new objects -/
abbrev Ext : Hp → Hp → Prop := Same
theorem Mv.ext (e : Ext H H') : Mv R R H H' := fun b u h => ⟨fun _ => e b u h, fun _ r => ⟨e b u h, r⟩⟩
theorem Mv.imp (f : ∀ b, R b → R' b) : Mv R R' H H := fun b u h => ⟨fun _ => h, fun _ r => ⟨h, f b r⟩⟩
theorem Mv.tracked : Mv R (fun b => R b ∧ ∃ u, H b = some u) H H := fun b u h => ⟨fun _ => h, fun _ r => ⟨h, r, u, h⟩⟩
theorem Sd.ext {d : D} {v : V} (h : Sd G R H d v) (e : Ext H H') : Sd G R H' d v := Sd.mv (Mv.ext e) d v h
theorem SdL.ext {ds : List D} {vs : List V} (h : SdL G R H ds vs) (e : Ext H H') : SdL G R H' ds vs := SdL.mv (Mv.ext e) ds vs h
theorem Sd.imp {d : D} {v : V} (h : Sd G R H d v) (f : ∀ b, R b → R' b) : Sd G R' H d v := Sd.mv (Mv.imp f) d v h
theorem SdL.imp {ds : List D} {vs : List V} (h : SdL G R H ds vs) (f : ∀ b, R b → R' b) : SdL G R' H ds vs := SdL.mv (Mv.imp f) ds vs h
theorem ext_upd {p : Addr} {o : HO} (h : H p = none) : Ext H (upd H p o) := fun b u e => by rw [upd_ne (ne_of_none e h)]; exact e

mutual
theorem Sd.dp {K : PySem.W.Frag} : ∀ (d : D) (v : V), Sd G R H d v → isPy d = true → Dp K H v (py d)
  | .non, _, h, _ => by rw [show _ = V.non from h]; exact .non
  | .bl b, _, h, _ => by rw [show _ = V.bl b from h]; exact .bl b
  | .int i, _, h, _ => by rw [show _ = V.int i from h]; exact .int i
  | .str x, _, h, _ => by rw [show _ = V.str x from h]; exact .str x
  | .tup ds, v, h, q => by
    obtain ⟨a, vs, e, ha, hs⟩ := h
    subst e
    exact .tup (SqT.of ha) (SdL.dp ds vs hs (by simpa [isPy] using q))
  | .lst ds, v, h, q => by
    obtain ⟨a, vs, e, ha, _, hs⟩ := h
    subst e
    exact .lst (SqL.of ha) (SdL.dp ds vs hs (by simpa [isPy] using q))
  | .node _ _ _ _, _, _, q => by simp [isPy] at q
  | .dic _ _, _, _, q => by simp [isPy] at q
  | .opq _, _, _, q => by simp [isPy] at q
theorem SdL.dp {K : PySem.W.Frag} : ∀ (ds : List D) (vs : List V), SdL G R H ds vs → isPyL ds = true → DpAll K H vs (pyL ds)
  | [], _, h, _ => by rw [show _ = [] from h]; exact .nil
  | d :: ds, _, h, q => by
    obtain ⟨v, vr, e, h1, h2⟩ := h
    subst e
    simp only [isPyL, Bool.and_eq_true] at q
    exact .cons (Sd.dp d v h1 q.1) (SdL.dp ds vr h2 q.2)
end
end
end DL
end
section
set_option Elab.async false
set_option linter.all false
set_option maxRecDepth 100000
set_option autoImplicit false
/-! The data layer: slots as data, the judgements. -/
namespace DL
open PySem PySem.Spec
open PyProof.Rows hiding St
open L2

abbrev DE := List (Option D)
/-- the address in a slot that the def itself writes -/
def IsOwn (own : List Nat) (σ : St) (b : Addr) : Prop := ∃ i : Nat, i ∈ own ∧ σ[i]? = some (some (.ref b))
/-- a def's start: an object handed in that it may write (its slot is 0), the lists of its arguments, the heap -/
structure Bs where
  fr : Option Addr
  S : Addr → Prop
  H0 : Hp
  hid : Addr → Prop
def RS (B : Bs) (own : List Nat) (σ : St) : Addr → Prop := fun b => (B.S b ∨ B.H0 b = none) ∧ ¬ IsOwn own σ b ∧ ¬ B.hid b
structure EnvOk (G : Gp) (B : Bs) (own : List Nat) (ρ : DE) (σ : St) (H : Hp) : Prop where
  len : ρ.length = σ.length
  same : ∀ (b : Addr) (u : HO), B.fr ≠ some b → B.H0 b = some u → H b = some u
  rep : ∀ (i : Nat) (d : D), ρ[i]? = some (some d) → i ∉ own → ∃ v, σ[i]? = some (some v) ∧ Sd G (RS B own σ) H d v
  wr : ∀ (i : Nat) (d : D), ρ[i]? = some (some d) → i ∈ own → ∃ a vs ds, d = .lst ds ∧ σ[i]? = some (some (.ref a)) ∧ H a = some (.lst vs) ∧ SdL G (RS B own σ) H ds vs ∧ (B.H0 a = none ∨ B.fr = some a) ∧ ¬ B.hid a
  non : ∀ (i : Nat), ρ[i]? = some none → σ[i]? = some none
  inj : ∀ (i j : Nat) (a : Addr), i ∈ own → j ∈ own → σ[i]? = some (some (.ref a)) → σ[j]? = some (some (.ref a)) → i = j
  frs : ∀ (b : Addr), B.fr = some b → 0 ∈ own ∧ σ[0]? = some (some (.ref b))
  hide : ∀ (b : Addr), B.hid b → ∃ u, H b = some u
/-- what is tracked and not written by the def stays, and comes into no such slot -/
def KS (o1 : List Nat) (σ : St) (H : Hp) (o2 : List Nat) (σ' : St) (H' : Hp) : Prop := ∀ b u, H b = some u → ¬ IsOwn o1 σ b → H' b = some u ∧ ¬ IsOwn o2 σ' b

section
variable {G : Gp} {B : Bs} {own o1 o2 o3 : List Nat} {ρ : DE} {σ σ' σ'' : St} {H H' H'' : Hp}
theorem EnvOk.ownL (E : EnvOk G B own ρ σ H) {b : Addr} (h : IsOwn own σ b) : ∃ vs, H b = some (.lst vs) := by
  obtain ⟨i, hi, e⟩ := h
  have hlt : i < ρ.length := by rw [E.len]; exact (List.getElem?_eq_some_iff.mp e).1
  cases q : ρ[i] with
  | none =>
    have := E.non i (by rw [List.getElem?_eq_getElem hlt, q])
    rw [this] at e
    cases e
  | some d =>
    obtain ⟨a, vs, ds, _, e2, ha, _⟩ := E.wr i d (by rw [List.getElem?_eq_getElem hlt, q]) hi
    rw [e] at e2
    cases e2
    exact ⟨vs, ha⟩
theorem EnvOk.h0 (E : EnvOk G B own ρ σ H) {p : Addr} (h : H p = none) : B.H0 p = none := by
  cases q : B.H0 p with
  | none => rfl
  | some u =>
    by_cases hf : B.fr = some p
    · obtain ⟨h0, e⟩ := E.frs p hf
      obtain ⟨vs, z⟩ := E.ownL ⟨0, h0, e⟩
      rw [h] at z
      cases z
    · rw [E.same p u hf q] at h
      cases h
theorem EnvOk.new (E : EnvOk G B own ρ σ H) : ∀ p, H p = none → RS B own σ p := fun p h => by
  refine ⟨.inr (E.h0 h), fun z => ?_, fun z => ?_⟩
  · obtain ⟨vs, q⟩ := E.ownL z
    rw [h] at q
    cases q
  · obtain ⟨u, q⟩ := E.hide p z
    rw [h] at q
    cases q
theorem KS.refl : KS own σ H own σ H := fun _ _ h n => ⟨h, n⟩
theorem KS.trans (a : KS o1 σ H o2 σ' H') (b : KS o2 σ' H' o3 σ'' H'') : KS o1 σ H o3 σ'' H'' := fun c u h n =>
  let ⟨h', n'⟩ := a c u h n
  b c u h' n'
theorem KS.ext (e : Ext H H') : KS own σ H own σ H' := fun b u h n => ⟨e b u h, n⟩
theorem EnvOk.mv (E : EnvOk G B o1 ρ σ H) (k : KS o1 σ H o2 σ' H') : Mv (RS B o1 σ) (RS B o2 σ') H H' := fun b u h => by
  refine ⟨fun z => ?_, fun z r => ?_⟩
  · refine (k b u h fun q => ?_).1
    obtain ⟨vs, e⟩ := E.ownL q
    rw [h] at e
    cases e
    cases z
  · obtain ⟨h', n'⟩ := k b u h r.2.1
    exact ⟨h', r.1, n', r.2.2⟩
theorem Sd.ks {d : D} {v : V} (h : Sd G (RS B o1 σ) H d v) (E : EnvOk G B o1 ρ σ H) (k : KS o1 σ H o2 σ' H') : Sd G (RS B o2 σ') H' d v := Sd.mv (E.mv k) d v h
theorem SdL.ks {d : List D} {v : List V} (h : SdL G (RS B o1 σ) H d v) (E : EnvOk G B o1 ρ σ H) (k : KS o1 σ H o2 σ' H') : SdL G (RS B o2 σ') H' d v := SdL.mv (E.mv k) d v h
theorem EnvOk.ext (E : EnvOk G B own ρ σ H) (e : Ext H H') : EnvOk G B own ρ σ H' :=
  ⟨E.len, fun b u h1 h2 => e b u (E.same b u h1 h2), fun i d h1 h2 => let ⟨v, q1, q2⟩ := E.rep i d h1 h2; ⟨v, q1, q2.ext e⟩,
    fun i d h1 h2 => let ⟨a, vs, ds, q1, q2, q3, q4, q5⟩ := E.wr i d h1 h2; ⟨a, vs, ds, q1, q2, e _ _ q3, q4.ext e, q5⟩, E.non, E.inj, E.frs, fun b hb => let ⟨u, q⟩ := E.hide b hb; ⟨u, e b u q⟩⟩
/-- a slot that is no longer written -/
theorem IsOwn.sub {b : Addr} (h : ∀ x ∈ o2, x ∈ o1) (z : IsOwn o2 σ b) : IsOwn o1 σ b := let ⟨i, hi, e⟩ := z; ⟨i, h i hi, e⟩
theorem EnvOk.drop (E : EnvOk G B o1 ρ σ H) (h : ∀ x ∈ o2, x ∈ o1) (h0 : 0 ∈ o1 → 0 ∈ o2) : EnvOk G B o2 ρ σ H := by
  have w : ∀ b, RS B o1 σ b → RS B o2 σ b := fun b r => ⟨r.1, fun z => r.2.1 (z.sub h), r.2.2⟩
  refine ⟨E.len, E.same, fun i d h1 h2 => ?_, fun i d h1 h2 => ?_, E.non, fun i j a hi hj => E.inj i j a (h i hi) (h j hj), fun b hb => ⟨h0 (E.frs b hb).1, (E.frs b hb).2⟩, E.hide⟩
  · by_cases hi : i ∈ o1
    · obtain ⟨a, vs, ds, rfl, e, ha, hs, hn, hh⟩ := E.wr i d h1 hi
      have no : ¬ IsOwn o2 σ a := fun ⟨j, hj, e2⟩ => h2 (by rw [E.inj i j a hi (h j hj) e e2]; exact hj)
      refine ⟨_, e, a, vs, rfl, ha, ⟨?_, no, hh⟩, hs.imp w⟩
      rcases hn with z | z
      · exact .inr z
      · obtain ⟨q0, q1⟩ := E.frs a z
        exact absurd ⟨0, h0 q0, q1⟩ no
    · obtain ⟨v, q1, q2⟩ := E.rep i d h1 hi
      exact ⟨v, q1, q2.imp w⟩
  · obtain ⟨a, vs, ds, q1, q2, q3, q4, q5⟩ := E.wr i d h1 (h i h2)
    exact ⟨a, vs, ds, q1, q2, q3, q4.imp w, q5⟩
theorem KS.drop (h : ∀ x ∈ o2, x ∈ o1) : KS o1 σ H o2 σ H := fun b u e n => ⟨e, fun z => n (z.sub h)⟩
/-- a slot that others write is stored -/
theorem isOwn_set {i : Nat} {x : Option V} (hi : i ∉ own) (b : Addr) : IsOwn own (σ.set i x) b ↔ IsOwn own σ b := by
  constructor
  · rintro ⟨j, hj, e⟩
    refine ⟨j, hj, ?_⟩
    rw [List.getElem?_set_ne (fun z => hi (by rw [z]; exact hj))] at e
    exact e
  · rintro ⟨j, hj, e⟩
    refine ⟨j, hj, ?_⟩
    rw [List.getElem?_set_ne (fun z => hi (by rw [z]; exact hj))]
    exact e
theorem rs_congr (h : ∀ b, IsOwn o2 σ' b ↔ IsOwn o1 σ b) : RS B o2 σ' = RS B o1 σ := by
  funext b
  unfold RS
  rw [propext (h b)]
theorem KS.same (h : ∀ b, IsOwn o2 σ' b ↔ IsOwn o1 σ b) : KS o1 σ H o2 σ' H := fun b u e n => ⟨e, fun z => n ((h b).mp z)⟩
theorem EnvOk.set {i : Nat} {d : D} {v : V} (E : EnvOk G B own ρ σ H) (hi : i ∉ own) (hl : i < ρ.length) (h : Sd G (RS B own σ) H d v) : EnvOk G B own (ρ.set i (some d)) (σ.set i (some v)) H := by
  have hR : RS B own (σ.set i (some v)) = RS B own σ := rs_congr fun b => isOwn_set hi b
  have hlσ : i < σ.length := by rw [← E.len]; exact hl
  have ne : ∀ j, j ∈ own → i ≠ j := fun j hj z => hi (by rw [z]; exact hj)
  refine ⟨by rw [List.length_set, List.length_set, E.len], E.same, fun j x h1 h2 => ?_, fun j x h1 h2 => ?_, fun j h1 => ?_, fun j k a hj hk h1 h2 => ?_, fun b hb => ?_, E.hide⟩
  · rw [hR]
    by_cases hj : i = j
    · subst hj
      rw [List.getElem?_set_self hl] at h1
      cases h1
      exact ⟨v, List.getElem?_set_self hlσ, h⟩
    · rw [List.getElem?_set_ne hj] at h1 ⊢
      exact E.rep j x h1 h2
  · rw [hR]
    rw [List.getElem?_set_ne (ne j h2)] at h1 ⊢
    exact E.wr j x h1 h2
  · by_cases hj : i = j
    · subst hj
      rw [List.getElem?_set_self hl] at h1
      cases h1
    · rw [List.getElem?_set_ne hj] at h1 ⊢
      exact E.non j h1
  · rw [List.getElem?_set_ne (ne j hj)] at h1
    rw [List.getElem?_set_ne (ne k hk)] at h2
    exact E.inj j k a hj hk h1 h2
  · obtain ⟨q0, q1⟩ := E.frs b hb
    exact ⟨q0, by rw [List.getElem?_set_ne (ne 0 q0)]; exact q1⟩
/-- a new list comes into a slot that the def writes -/
theorem EnvOk.setNew {i : Nat} {p : Addr} {ds : List D} {vs : List V} {H1 : Hp} (E : EnvOk G B own ρ σ H1) (i0 : i ≠ 0) (hl : i < ρ.length) (hp : H1 p = none) (e : Ext H1 H') (h : H' p = some (.lst vs))
    (hs : SdL G (fun b => RS B own σ b ∧ b ≠ p) H' ds vs) : EnvOk G B (i :: own) (ρ.set i (some (.lst ds))) (σ.set i (some (.ref p))) H' ∧ KS own σ H1 (i :: own) (σ.set i (some (.ref p))) H' := by
  have hlσ : i < σ.length := by rw [← E.len]; exact hl
  have sub : ∀ b, IsOwn (i :: own) (σ.set i (some (.ref p))) b → b = p ∨ IsOwn own σ b := by
    rintro b ⟨j, hj, q⟩
    by_cases hij : i = j
    · subst hij
      rw [List.getElem?_set_self hlσ] at q
      cases q
      exact .inl rfl
    · rw [List.getElem?_set_ne hij] at q
      rcases List.mem_cons.mp hj with z | z
      · exact absurd z.symm hij
      · exact .inr ⟨j, z, q⟩
  have w : ∀ b, RS B own σ b ∧ b ≠ p → RS B (i :: own) (σ.set i (some (.ref p))) b := fun b r => ⟨r.1.1, fun z => (sub b z).elim r.2 r.1.2.1, r.1.2.2⟩
  have ww : ∀ b, RS B own σ b ∧ (∃ u, H1 b = some u) → RS B own σ b ∧ b ≠ p := fun b r => ⟨r.1, fun z => by
    obtain ⟨u, q⟩ := r.2
    rw [z, hp] at q
    cases q⟩
  have up : ∀ {d : D} {v : V}, Sd G (RS B own σ) H1 d v → Sd G (RS B (i :: own) (σ.set i (some (.ref p)))) H' d v := fun {d v} q =>
    ((Sd.mv Mv.tracked d v q).ext e).imp fun b r => w b (ww b r)
  have upL : ∀ {d : List D} {v : List V}, SdL G (RS B own σ) H1 d v → SdL G (RS B (i :: own) (σ.set i (some (.ref p)))) H' d v := fun {d v} q =>
    ((SdL.mv Mv.tracked d v q).ext e).imp fun b r => w b (ww b r)
  refine ⟨⟨by rw [List.length_set, List.length_set, E.len], fun b u h1 h2 => e b u (E.same b u h1 h2), fun j x h1 h2 => ?_, fun j x h1 h2 => ?_, fun j h1 => ?_, fun j k a hj hk h1 h2 => ?_, fun b hb => ?_, fun b hb => let ⟨u, q⟩ := E.hide b hb; ⟨u, e b u q⟩⟩, fun b u q n => ?_⟩
  · have hij : i ≠ j := fun z => h2 (by rw [z]; exact List.mem_cons_self)
    rw [List.getElem?_set_ne hij] at h1 ⊢
    obtain ⟨v, q1, q2⟩ := E.rep j x h1 fun z => h2 (List.mem_cons_of_mem _ z)
    exact ⟨v, q1, up q2⟩
  · by_cases hij : i = j
    · subst hij
      rw [List.getElem?_set_self hl] at h1
      cases h1
      exact ⟨p, vs, ds, rfl, List.getElem?_set_self hlσ, h, hs.imp w, .inl (E.h0 hp), fun z => by
        obtain ⟨u, q⟩ := E.hide p z
        rw [hp] at q
        cases q⟩
    · rw [List.getElem?_set_ne hij] at h1 ⊢
      have hj : j ∈ own := (List.mem_cons.mp h2).elim (fun z => absurd z.symm hij) id
      obtain ⟨a, us, es, q1, q2, q3, q4, q5⟩ := E.wr j x h1 hj
      exact ⟨a, us, es, q1, q2, e _ _ q3, upL q4, q5⟩
  · by_cases hij : i = j
    · subst hij
      rw [List.getElem?_set_self hl] at h1
      cases h1
    · rw [List.getElem?_set_ne hij] at h1 ⊢
      exact E.non j h1
  · have old : ∀ m, m ∈ i :: own → i ≠ m → (σ.set i (some (V.ref p)))[m]? = some (some (.ref a)) → a ≠ p := fun m hm him q z => by
      rw [List.getElem?_set_ne him] at q
      obtain ⟨us, z2⟩ := E.ownL ⟨m, (List.mem_cons.mp hm).elim (fun z => absurd z.symm him) id, q⟩
      rw [z, hp] at z2
      cases z2
    by_cases hij : i = j
    · by_cases hik : i = k
      · exact hij.symm.trans hik
      · subst hij
        have z := old k hk hik h2
        rw [List.getElem?_set_self hlσ] at h1
        cases h1
        exact absurd rfl z
    · by_cases hik : i = k
      · subst hik
        have z := old j hj hij h1
        rw [List.getElem?_set_self hlσ] at h2
        cases h2
        exact absurd rfl z
      · rw [List.getElem?_set_ne hij] at h1
        rw [List.getElem?_set_ne hik] at h2
        exact E.inj j k a ((List.mem_cons.mp hj).elim (fun z => absurd z.symm hij) id) ((List.mem_cons.mp hk).elim (fun z => absurd z.symm hik) id) h1 h2
  · obtain ⟨q0, q1⟩ := E.frs b hb
    exact ⟨List.mem_cons_of_mem _ q0, by rw [List.getElem?_set_ne i0]; exact q1⟩
  · refine ⟨e b u q, fun z => ?_⟩
    rcases sub b z with z | z
    · rw [z, hp] at q
      cases q
    · exact n z
/-- the list of a slot that the def writes is changed -/
theorem EnvOk.write {i : Nat} {a : Addr} {ds ds' : List D} {vs vs' : List V} (E : EnvOk G B own ρ σ H) (hi : i ∈ own) (he : ρ[i]? = some (some (.lst ds))) (e : σ[i]? = some (some (.ref a))) (h : H a = some (.lst vs))
    (k : ∀ b u, b ≠ a → H b = some u → H' b = some u) (h' : H' a = some (.lst vs')) (hs : SdL G (RS B own σ) H' ds' vs') : EnvOk G B own (ρ.set i (some (.lst ds'))) σ H' ∧ KS own σ H own σ H' := by
  have hl : i < ρ.length := (List.getElem?_eq_some_iff.mp he).1
  have ks : KS own σ H own σ H' := fun b u q n => ⟨k b u (fun z => n (by rw [z]; exact ⟨i, hi, e⟩)) q, n⟩
  refine ⟨⟨by rw [List.length_set, E.len], fun b u h1 h2 => ?_, fun j x h1 h2 => ?_, fun j x h1 h2 => ?_, fun j h1 => ?_, E.inj, E.frs, fun b hb => ?_⟩, ks⟩
  · have q := E.same b u h1 h2
    by_cases hb : b = a
    · exfalso
      subst hb
      obtain ⟨a2, vs2, ds2, q1, q2, q3, q4, q5⟩ := E.wr i _ he hi
      rw [e] at q2
      cases q2
      rcases q5.1 with z | z
      · rw [h2] at z
        cases z
      · exact h1 z
    · exact k b u hb q
  · have hij : i ≠ j := fun z => h2 (by rw [← z]; exact hi)
    rw [List.getElem?_set_ne hij] at h1
    obtain ⟨v, q1, q2⟩ := E.rep j x h1 h2
    exact ⟨v, q1, q2.ks E ks⟩
  · by_cases hij : i = j
    · subst hij
      rw [List.getElem?_set_self hl] at h1
      cases h1
      obtain ⟨a2, vs2, ds2, q1, q2, q3, q4, q5⟩ := E.wr i _ he hi
      rw [e] at q2
      cases q2
      exact ⟨a, vs', ds', rfl, e, h', hs, q5⟩
    · rw [List.getElem?_set_ne hij] at h1
      obtain ⟨a2, vs2, ds2, q1, q2, q3, q4, q5⟩ := E.wr j x h1 h2
      refine ⟨a2, vs2, ds2, q1, q2, k a2 _ (fun z => hij ?_) q3, q4.ks E ks, q5⟩
      subst z
      exact E.inj i j a2 hi h2 e q2
  · have hij : i ≠ j := fun z => by
      subst z
      rw [List.getElem?_set_self hl] at h1
      cases h1
    rw [List.getElem?_set_ne hij] at h1
    exact E.non j h1
  · obtain ⟨u, q⟩ := E.hide b hb
    by_cases hba : b = a
    · exact ⟨_, by rw [hba]; exact h'⟩
    · exact ⟨u, k b u hba q⟩
end

/-! ### the judgements -/
abbrev TD := DE → Option (D × DE)
abbrev BD := DE → Option (Bool × DE)
abbrev LD := DE → Option (List D × DE)
inductive Fl where
  | nx (ρ : DE)
  | rt (d : D) (ρ : DE)
abbrev SD := DE → Option Fl
abbrev GD := D → DE → Option DE

def tD (G : Gp) (own : List Nat) (f : TD) : TE := fun σ H Q => ∃ B ρ d ρ', EnvOk G B own ρ σ H ∧ f ρ = some (d, ρ') ∧
  ∀ v H', EnvOk G B own ρ' σ H' → KS own σ H own σ H' → Sd G (RS B own σ) H' d v → Q v H'
def tT (G : Gp) (own : List Nat) (f : BD) : TT := fun σ H Q => ∃ B ρ b ρ', EnvOk G B own ρ σ H ∧ f ρ = some (b, ρ') ∧
  ∀ H', EnvOk G B own ρ' σ H' → KS own σ H own σ H' → Q b H'
def tA (G : Gp) (own : List Nat) (f : LD) : TA := fun σ H Q => ∃ B ρ ds ρ', EnvOk G B own ρ σ H ∧ f ρ = some (ds, ρ') ∧
  ∀ vs H', EnvOk G B own ρ' σ H' → KS own σ H own σ H' → SdL G (RS B own σ) H' ds vs → Q vs H'
/-- a new list -/
def tF (G : Gp) (own : List Nat) (f : TD) : TE := fun σ H Q => ∃ B ρ ds ρ', EnvOk G B own ρ σ H ∧ f ρ = some (.lst ds, ρ') ∧
  ∀ p vs H1 H', EnvOk G B own ρ' σ H1 → KS own σ H own σ H1 → H1 p = none → Ext H1 H' → H' p = some (.lst vs) → SdL G (fun b => RS B own σ b ∧ b ≠ p) H' ds vs → Q (.ref p) H'
def sD (G : Gp) (o1 o2 : List Nat) (f : SD) : TS := fun Dn σ H => ∃ B ρ r, EnvOk G B o1 ρ σ H ∧ f ρ = some r ∧ match r with
  | .nx ρ' => ∀ σ' H', EnvOk G B o2 ρ' σ' H' → KS o1 σ H o2 σ' H' → Dn.nx σ' H'
  | .rt d ρ' => ∀ o σ' v H', EnvOk G B o ρ' σ' H' → Sd G (RS B o σ') H' d v → Dn.rt v H'
/-- a target; it stores into the slots ts alone -/
def gD (G : Gp) (own ts : List Nat) (g : GD) : TG := fun v σ H Q => ∃ B ρ d ρ', EnvOk G B own ρ σ H ∧ Sd G (RS B own σ) H d v ∧ g d ρ = some ρ' ∧
  ∀ σ' H', EnvOk G B own ρ' σ' H' → KS own σ H own σ' H' → (∀ j, j ∉ ts → σ'[j]? = σ[j]?) ∧ σ'.length = σ.length → Q σ' H'

theorem PE.weak {X : Cx} {e : Expr} {t t' : TE} (h : PE X e t) (w : ∀ σ H Q, t' σ H Q → t σ H Q) : PE X e t' := ⟨fun pins s σ H Q I q => h.run pins s σ H Q I (w σ H Q q)⟩
theorem PT.weak {X : Cx} {e : Expr} {t t' : TT} (h : PT X e t) (w : ∀ σ H Q, t' σ H Q → t σ H Q) : PT X e t' := ⟨fun pins s σ H Q I q => h.run pins s σ H Q I (w σ H Q q)⟩
theorem PW.weak {X : Cx} {e : Expr} {t t' : TT} (h : PW X e t) (w : ∀ σ H Q, t' σ H Q → t σ H Q) : PW X e t' := ⟨fun wh pins s σ H Q I q => h.run wh pins s σ H Q I (w σ H Q q)⟩
theorem PA.weak {X : Cx} {e : List Expr} {t t' : TA} (h : PA X e t) (w : ∀ σ H Q, t' σ H Q → t σ H Q) : PA X e t' := ⟨fun pos pins s σ H Q I q => h.run pos pins s σ H Q I (w σ H Q q)⟩
theorem PS.weak {X : Cx} {e : Stmt} {t t' : TS} (h : PS X e t) (w : ∀ D σ H, t' D σ H → t D σ H) : PS X e t' := ⟨fun pins s σ H D I q => h.run pins s σ H D I (w D σ H q)⟩
theorem PSs.weak {X : Cx} {e : List Stmt} {t t' : TS} (h : PSs X e t) (w : ∀ D σ H, t' D σ H → t D σ H) : PSs X e t' := ⟨fun pins s σ H D I q => h.run pins s σ H D I (w D σ H q)⟩
theorem PG.weak {X : Cx} {e : Expr} {t t' : TG} (h : PG X e t) (w : ∀ v σ H Q, t' v σ H Q → t v σ H Q) : PG X e t' := ⟨fun pins s σ H v u Q I r q => h.run pins s σ H v u Q I r (w v σ H Q q)⟩
theorem PI.weak {X : Cx} {tg e : Expr} {t t' : TI} (h : PI X tg e t) (w : ∀ σ H Q, t' σ H Q → t σ H Q) : PI X tg e t' := ⟨fun pins s σ H Q I q => h.run pins s σ H Q I (w σ H Q q)⟩

/-! ### values -/
section
variable {X : Cx} {G : Gp} {own : List Nat} {pos : Pos}
def dV (i : Nat) : TD := fun ρ => match ρ[i]? with
  | some (some d) => some (d, ρ)
  | _ => none
theorem dV_some {i : Nat} {ρ ρ' : DE} {d : D} (h : dV i ρ = some (d, ρ')) : ρ[i]? = some (some d) ∧ ρ' = ρ := by
  unfold dV at h
  split at h
  · rename_i d' e
    cases h
    exact ⟨e, rfl⟩
  · cases h
theorem vv (i : Nat) {x : Str} (hi : (own.contains i) = false := by rfl) (hN : X.N[i]? = some x := by rfl) (hv : Vis X.env.scope x := by first | exact Or.inl rfl | exact Or.inr (Or.inl rfl) | exact Or.inr (Or.inr rfl))
    (hd : (x == ("__debug__" : Str)) = false := by decide) (hcd : (x == ("__classdict__" : Str)) = false := by decide) : PE X (.Name x pos) (tD G own (dV i)) := by
  refine PE.weak (pe_var hN hv hd hcd) fun σ H Q h => ?_
  obtain ⟨B, ρ, d, ρ', E, e, q⟩ := h
  obtain ⟨e1, rfl⟩ := dV_some e
  have hm : i ∉ own := fun z => by rw [List.contains_iff_mem.mpr z] at hi; cases hi
  obtain ⟨v, q1, q2⟩ := E.rep i d e1 hm
  exact ⟨v, q1, q v H E KS.refl q2⟩
def dC (d : D) : TD := fun ρ => some (d, ρ)
theorem pd_const {e : Expr} {d : D} {v : V} (h : PE X e (tC v)) (hv : ∀ R H, Sd G R H d v) : PE X e (tD G own (dC d)) := PE.weak h fun σ H Q h => by
  obtain ⟨B, ρ, d', ρ', E, e, q⟩ := h
  cases e
  exact q v H E KS.refl (hv _ _)
theorem vi {i : Int} {j : Nat} : PE X (.Constant (.int i) j pos) (tD G own (dC (.int i))) := pd_const pe_int fun _ _ => rfl
theorem vb {b : Bool} {j : Nat} : PE X (.Constant (.bool b) j pos) (tD G own (dC (.bl b))) := pd_const pe_bl fun _ _ => rfl
theorem vn {j : Nat} : PE X (.Constant .none j pos) (tD G own (dC .non)) := pd_const pe_non fun _ _ => rfl
theorem vs {x : Str} {j : Nat} : PE X (.Constant (.str x) j pos) (tD G own (dC (.str x))) := pd_const pe_str fun _ _ => rfl
theorem vgi {x : Str} {i : Int} {t : Tok} (hg : Gl X x) (hm : X.mg x = some (.int i t)) (hd : (x == ("__debug__" : Str)) = false := by decide) : PE X (.Name x pos) (tD G own (dC (.int i))) := pd_const (pe_glob hg hm (v := .int i) ⟨t, rfl⟩ hd) fun _ _ => rfl

/-! ### operations on two values -/
def rD (G : Gp) (g : D → D → Option D) : R2 := fun x y H Q => ∃ R a b d, (∀ p, H p = none → R p) ∧ Sd G R H a x ∧ Sd G R H b y ∧ g a b = some d ∧ ∀ v H', Ext H H' → Sd G R H' d v → Q v H'
def dOp (g : D → D → Option D) (fa fb : TD) : TD := fun ρ => (fa ρ).bind fun p => (fb p.2).bind fun q => (g p.1 q.1).map fun d => (d, q.2)
theorem op_two {g : D → D → Option D} {fa fb : TD} {σ : St} {H : Hp} {Q : VK} (h : tD G own (dOp g fa fb) σ H Q) : tOp (rD G g) (tD G own fa) (tD G own fb) σ H Q := by
  obtain ⟨B, ρ, d, ρ', E, e, q⟩ := h
  unfold dOp at e
  cases ea : fa ρ with
  | none => rw [ea] at e; cases e
  | some p =>
    rw [ea] at e
    cases eb : fb p.2 with
    | none => rw [Option.bind_some, eb] at e; cases e
    | some p2 =>
      rw [Option.bind_some, eb, Option.bind_some] at e
      cases ec : g p.1 p2.1 with
      | none => rw [ec] at e; cases e
      | some d' =>
        rw [ec] at e
        cases e
        refine ⟨B, ρ, p.1, p.2, E, ea, fun vx H1 E1 k1 s1 => ⟨B, p.2, p2.1, p2.2, E1, eb, fun vy H2 E2 k2 s2 => ?_⟩⟩
        refine ⟨RS B own σ, p.1, p2.1, d, E2.new, s1.ks E1 k2, s2, ec, fun v H3 x3 s3 => ?_⟩
        exact q v H3 (E2.ext x3) ((k1.trans k2).trans (KS.ext x3)) s3
theorem vop {op : Operator} {g : D → D → Option D} {a b : Expr} {fa fb : TD} (ho : OpR X (binaryOp op) (rD G g)) (ha : PE X a (tD G own fa)) (hb : PE X b (tD G own fb)) : PE X (.BinOp a op b pos) (tD G own (dOp g fa fb)) :=
  PE.weak (pe_op ho ha hb) fun _ _ _ h => op_two h
theorem vcmp {op : CmpOp} {g : D → D → Option D} {a b : Expr} {fa fb : TD} (ho : OpR X (compareOp op) (rD G g)) (ha : PE X a (tD G own fa)) (hb : PE X b (tD G own fb)) (hm : behindInMarks op b = false := by first | exact nomark _ | rfl) :
    PE X (.Compare a [op] [b] pos) (tD G own (dOp g fa fb)) := PE.weak (pe_cmpR ho ha hb hm) fun _ _ _ h => op_two h
/-- a truth that is computed, as a test -/
def dT (f : TD) : BD := fun ρ => match f ρ with
  | some (.bl b, ρ') => some (b, ρ')
  | _ => none
theorem dT_some {f : TD} {ρ ρ' : DE} {b : Bool} (h : dT f ρ = some (b, ρ')) : f ρ = some (.bl b, ρ') := by
  unfold dT at h
  split at h
  · rename_i e
    cases h
    exact e
  · cases h
theorem t_test {f : TD} {σ : St} {H : Hp} {Q : Bool → Hp → Prop} (h : tT G own (dT f) σ H Q) : tD G own f σ H fun x H' => ∃ k, x = .bl k ∧ Q k H' := by
  obtain ⟨B, ρ, b, ρ', E, e, q⟩ := h
  exact ⟨B, ρ, .bl b, ρ', E, dT_some e, fun v H' E' k s => ⟨b, s, q H' E' k⟩⟩
theorem tcmp {op : CmpOp} {g : D → D → Option D} {a b : Expr} {fa fb : TD} (ho : OpR X (compareOp op) (rD G g)) (ha : PE X a (tD G own fa)) (hb : PE X b (tD G own fb)) (hm : behindInMarks op b = false := by first | exact nomark _ | rfl) :
    PT X (.Compare a [op] [b] pos) (tT G own (dT (dOp g fa fb))) := PT.weak (pt_cmpR ho ha hb hm) fun _ _ _ h => op_two (t_test h)
theorem tval {e : Expr} {f : TD} (h : PE X e (tD G own f)) (he : ∀ whole, isTrue e X.env whole = (do let v ← whole; standAt e.pos; holding [v] (truthy v)) := by intro _; rfl) : PT X e (tT G own (dT f)) :=
  PT.weak (pt_val h he) fun _ _ _ h => t_test h
end
end DL
end
section
set_option Elab.async false
set_option linter.all false
set_option maxRecDepth 100000
set_option autoImplicit false
/-! The data layer: operations, comparisons, truths, displays, subscripts, built-in calls. -/
namespace DL
open PySem PySem.Spec
open PyProof.Rows hiding St
open L2

/-! ### arithmetic -/
def gAdd : D → D → Option D
  | .int i, .int j => some (.int (i + j))
  | .tup a, .tup b => if a.length + b.length ≤ sizeLine then some (.tup (a ++ b)) else none
  | .lst a, .lst b => if a.length + b.length ≤ sizeLine then some (.lst (a ++ b)) else none
  | _, _ => none
def gSub : D → D → Option D
  | .int i, .int j => some (.int (i - j))
  | _, _ => none
/-- a factor below 2^64 -/
def mulOk (i j : Int) : Bool := decide (-(2 ^ 64) < i ∧ i < 2 ^ 64) || decide (-(2 ^ 64) < j ∧ j < 2 ^ 64)
def gMul : D → D → Option D
  | .int i, .int j => if mulOk i j then some (.int (i * j)) else none
  | _, _ => none
def gDiv : D → D → Option D
  | .int i, .int j => if 0 < j ∧ j < 1073741824 then some (.int (i / j)) else none
  | _, _ => none
def gMod : D → D → Option D
  | .int i, .int j => if 0 < j then some (.int (i % j)) else none
  | _, _ => none
def gPow : D → D → Option D
  | .int i, .int j => if 0 ≤ j ∧ j ≤ 1000000 ∧ i.natAbs < 2 ^ 64 then some (.int (i ^ j.toNat)) else none
  | _, _ => none
section
variable {X : Cx} {G : Gp}
theorem o_add : OpR X (binaryOp .Add) (rD G gAdd) := by
  intro pins s σ H x y v u Q I rx ry h
  obtain ⟨R, a, b, d, hn, sa, sb, e, q⟩ := h
  unfold gAdd at e
  split at e
  · rename_i i j
    cases e
    exact op_add pins s σ H x y v u Q I rx ry ⟨i, j, sa, sb, q _ H (Same.refl _) rfl⟩
  · rename_i as bs
    split at e
    · rename_i hz
      cases e
      obtain ⟨p1, vs, rfl, h1, s1⟩ := sa
      obtain ⟨p2, us, rfl, h2, s2⟩ := sb
      have l1 := s1.length
      have l2 := s2.length
      refine op_catA pins s σ H _ _ v u Q I rx ry ⟨p1, p2, vs, us, rfl, rfl, SqT.of h1, SqT.of h2, by omega, fun z => ?_, fun _ z => ?_, fun _ _ p hp => ?_⟩
      · subst z
        rw [List.length_nil] at l1
        cases as with
        | nil => exact q _ H (Same.refl _) ⟨p2, us, rfl, h2, s2⟩
        | cons _ _ => cases l1
      · subst z
        rw [List.length_nil] at l2
        cases bs with
        | nil => exact q _ H (Same.refl _) ⟨p1, vs, rfl, h1, by rw [List.append_nil]; exact s1⟩
        | cons _ _ => cases l2
      · exact q _ _ (ext_upd hp) ⟨p, vs ++ us, rfl, upd_same, (s1.append s2).ext (ext_upd hp)⟩
    · cases e
  · rename_i as bs
    split at e
    · rename_i hz
      cases e
      obtain ⟨p1, vs, rfl, h1, _, s1⟩ := sa
      obtain ⟨p2, us, rfl, h2, _, s2⟩ := sb
      have l1 := s1.length
      have l2 := s2.length
      refine op_cat pins s σ H _ _ v u Q I rx ry ⟨p1, p2, vs, us, rfl, rfl, h1, h2, by omega, fun p hp => ?_⟩
      exact q _ _ (ext_upd hp) ⟨p, vs ++ us, rfl, upd_same, hn p hp, (s1.append s2).ext (ext_upd hp)⟩
    · cases e
  · cases e
theorem o_int {f : Value → Value → Sem Value} {C : Int → Int → Prop} {g : Int → Int → Int} {g' : D → D → Option D} (ho : OpR X f (rI C fun i j => .int (g i j)))
    (hg : ∀ a b d, g' a b = some d → ∃ i j, a = .int i ∧ b = .int j ∧ C i j ∧ d = .int (g i j)) : OpR X f (rD G g') := by
  intro pins s σ H x y v u Q I rx ry h
  obtain ⟨R, a, b, d, hn, sa, sb, e, q⟩ := h
  obtain ⟨i, j, rfl, rfl, hc, rfl⟩ := hg a b d e
  exact ho pins s σ H x y v u Q I rx ry ⟨i, j, sa, sb, hc, q _ H (Same.refl _) rfl⟩
theorem o_sub : OpR X (binaryOp .Sub) (rD G gSub) := by
  intro pins s σ H x y v u Q I rx ry h
  obtain ⟨R, a, b, d, hn, sa, sb, e, q⟩ := h
  unfold gSub at e
  split at e
  · cases e
    exact op_sub pins s σ H x y v u Q I rx ry ⟨_, _, sa, sb, q _ H (Same.refl _) rfl⟩
  · cases e
theorem o_mul : OpR X (binaryOp .Mult) (rD G gMul) := o_int op_mul fun a b d e => by
  unfold gMul at e
  split at e
  · split at e
    · rename_i i j hm
      cases e
      refine ⟨i, j, rfl, rfl, ?_, rfl⟩
      simp only [mulOk, Bool.or_eq_true, decide_eq_true_eq] at hm
      exact hm
    · cases e
  · cases e
theorem o_div : OpR X (binaryOp .FloorDiv) (rD G gDiv) := o_int op_fdiv fun a b d e => by
  unfold gDiv at e
  split at e
  · split at e
    · rename_i i j hm
      cases e
      exact ⟨i, j, rfl, rfl, hm, rfl⟩
    · cases e
  · cases e
theorem o_mod : OpR X (binaryOp .Mod) (rD G gMod) := o_int op_mod fun a b d e => by
  unfold gMod at e
  split at e
  · split at e
    · rename_i i j hm
      cases e
      exact ⟨i, j, rfl, rfl, hm, rfl⟩
    · cases e
  · cases e
theorem o_pow : OpR X (binaryOp .Pow) (rD G gPow) := o_int op_pow fun a b d e => by
  unfold gPow at e
  split at e
  · split at e
    · rename_i i j hm
      cases e
      exact ⟨i, j, rfl, rfl, hm, rfl⟩
    · cases e
  · cases e
/-- in-place + of ints -/
theorem o_iadd : PIp X .Add (fun x y H Q => ∃ i j, x = .int i ∧ y = .int j ∧ Q (.int (i + j)) H) := ip_add

/-! ### comparisons -/
def okPy (d : D) : Bool := isPy d && SeqAt.shaped (py d)
def gEq : D → D → Option D
  | .str x, .str y => some (.bl (decide (x = y)))
  | a, b => if okPy a && okPy b then some (.bl (PyData.eqv (py a) (py b))) else none
def gNe : D → D → Option D
  | .str x, .str y => some (.bl (!decide (x = y)))
  | a, b => if okPy a && okPy b then some (.bl (!PyData.eqv (py a) (py b))) else none
theorem okPy_and {a b : D} (h : (okPy a && okPy b) = true) : isPy a = true ∧ SeqAt.shaped (py a) = true ∧ isPy b = true ∧ SeqAt.shaped (py b) = true := by
  simp only [okPy, Bool.and_eq_true] at h
  exact ⟨h.1.1, h.1.2, h.2.1, h.2.2⟩
theorem dec_V {x y : Str} : decide (V.str x = V.str y) = decide (x = y) := by
  by_cases h : x = y
  · subst h
    simp
  · rw [decide_eq_false h, decide_eq_false fun z => h (V.str.inj z)]
theorem o_eq {k : Nat} (hr : Room k X.A) : OpR X (compareOp .Eq) (rD G gEq) := by
  intro pins s σ H x y v u Q I rx ry h
  obtain ⟨R, a, b, d, hn, sa, sb, e, q⟩ := h
  unfold gEq at e
  split at e
  · cases e
    rename_i x1 y1
    obtain rfl : x = .str x1 := sa
    obtain rfl : y = .str y1 := sb
    refine op_eq pins s σ H _ _ v u Q I rx ry ⟨rfl, ?_⟩
    rw [dec_V]
    exact q _ H (Same.refl _) rfl
  · split at e
    · rename_i hk
      cases e
      obtain ⟨k1, k2, k3, k4⟩ := okPy_and hk
      exact op_eqD hr.units pins s σ H x y v u Q I rx ry ⟨_, _, Sd.dp _ _ sa k1, Sd.dp _ _ sb k3, k2, k4, q _ H (Same.refl _) rfl⟩
    · cases e
theorem o_ne {k : Nat} (hr : Room k X.A) : OpR X (compareOp .NotEq) (rD G gNe) := by
  intro pins s σ H x y v u Q I rx ry h
  obtain ⟨R, a, b, d, hn, sa, sb, e, q⟩ := h
  unfold gNe at e
  split at e
  · cases e
    rename_i x1 y1
    obtain rfl : x = .str x1 := sa
    obtain rfl : y = .str y1 := sb
    refine op_ne pins s σ H _ _ v u Q I rx ry ⟨rfl, ?_⟩
    rw [dec_V]
    exact q _ H (Same.refl _) rfl
  · split at e
    · rename_i hk
      cases e
      obtain ⟨k1, k2, k3, k4⟩ := okPy_and hk
      exact op_neD hr.units pins s σ H x y v u Q I rx ry ⟨_, _, Sd.dp _ _ sa k1, Sd.dp _ _ sb k3, k2, k4, q _ H (Same.refl _) rfl⟩
    · cases e
/-- < of ints, and of tuples that compare place by place -/
def gLt : D → D → Option D
  | .int i, .int j => some (.bl (decide (i < j)))
  | .tup a, .tup b => if isPyL a && isPyL b && PySem.W.alike (py (.tup a)) (py (.tup b)) && decide ((py (.tup a)).depth ≤ 64) then some (.bl (PySem.W.dataLt (py (.tup a)) (py (.tup b)))) else none
  | _, _ => none
theorem o_lt {k : Nat} (hr : Room k X.A) : OpR X (compareOp .Lt) (rD G gLt) := by
  intro pins s σ H x y v u Q I rx ry h
  obtain ⟨R, a, b, d, hn, sa, sb, e, q⟩ := h
  unfold gLt at e
  split at e
  · cases e
    exact op_lt pins s σ H x y v u Q I rx ry ⟨_, _, sa, sb, q _ H (Same.refl _) rfl⟩
  · rename_i as bs
    split at e
    · rename_i hk
      cases e
      simp only [Bool.and_eq_true, decide_eq_true_eq] at hk
      obtain ⟨⟨⟨k1, k2⟩, k3⟩, k4⟩ := hk
      obtain ⟨_, r1⟩ := Dp.reads I _ x v (Sd.dp (K := X.K) _ _ sa (by simpa [isPy] using k1)) rx
      obtain ⟨_, r2⟩ := Dp.reads I _ y u (Sd.dp (K := X.K) _ _ sb (by simpa [isPy] using k2)) ry
      have hu := hr.units
      have c := PySem.W.rcLt_alike _ _ X.A s v u _ _ r1 r2 k3 (fun z => nomatch z) (by omega)
      exact c X.prog X.w _ _ ⟨.bl _, H, I, rfl, q _ H (Same.refl _) rfl⟩
    · cases e
  · cases e
def gCmp (p : Int → Int → Bool) : D → D → Option D
  | .int i, .int j => some (.bl (p i j))
  | _, _ => none
theorem o_cmp {op : CmpOp} {p : Int → Int → Bool} (ho : OpR X (compareOp op) (rI0 fun i j => .bl (p i j))) : OpR X (compareOp op) (rD G (gCmp p)) := by
  intro pins s σ H x y v u Q I rx ry h
  obtain ⟨R, a, b, d, hn, sa, sb, e, q⟩ := h
  unfold gCmp at e
  split at e
  · cases e
    exact ho pins s σ H x y v u Q I rx ry ⟨_, _, sa, sb, q _ H (Same.refl _) rfl⟩
  · cases e
theorem o_le : OpR X (compareOp .LtE) (rD G (gCmp fun i j => decide (i ≤ j))) := o_cmp op_le
theorem o_gt : OpR X (compareOp .Gt) (rD G (gCmp fun i j => decide (j < i))) := o_cmp op_gt
theorem o_ge : OpR X (compareOp .GtE) (rD G (gCmp fun i j => decide (j ≤ i))) := o_cmp op_ge
/-- is, of None and of truths -/
def isNon : D → Bool
  | .non => true
  | _ => false
theorem isNon_of {R : Addr → Prop} {H : Hp} {d : D} {v : V} (h : Sd G R H d v) : decide (v = .non) = isNon d := by
  cases d with
  | non => rw [show v = .non from h]; rfl
  | bl b => rw [show v = .bl b from h]; rfl
  | int b => rw [show v = .int b from h]; rfl
  | str b => rw [show v = .str b from h]; rfl
  | tup ds => obtain ⟨_, _, e, _⟩ := h; rw [e]; rfl
  | lst ds => obtain ⟨_, _, e, _⟩ := h; rw [e]; rfl
  | node _ _ _ _ => obtain ⟨_, _, _, _, _, _, e, _⟩ := h; rw [e]; rfl
  | dic _ _ => obtain ⟨_, _, _, _, _, _, e, _⟩ := h; rw [e]; rfl
  | opq _ => obtain ⟨_, e, _⟩ := h; rw [e]; rfl
def gIs : D → D → Option D
  | a, .non => some (.bl (isNon a))
  | .bl a, .bl b => some (.bl (decide (a = b)))
  | _, _ => none
def gIsNot : D → D → Option D
  | a, .non => some (.bl (!isNon a))
  | .bl a, .bl b => some (.bl (!decide (a = b)))
  | _, _ => none
theorem o_is : OpR X (compareOp .Is) (rD G gIs) := by
  intro pins s σ H x y v u Q I rx ry h
  obtain ⟨R, a, b, d, hn, sa, sb, e, q⟩ := h
  unfold gIs at e
  split at e
  · cases e
    exact op_isN pins s σ H x y v u Q I rx ry ⟨sb, by rw [isNon_of sa]; exact q _ H (Same.refl _) rfl⟩
  · cases e
    exact op_isBl pins s σ H x y v u Q I rx ry ⟨_, _, sa, sb, q _ H (Same.refl _) rfl⟩
  · cases e
theorem o_isnot : OpR X (compareOp .IsNot) (rD G gIsNot) := by
  intro pins s σ H x y v u Q I rx ry h
  obtain ⟨R, a, b, d, hn, sa, sb, e, q⟩ := h
  unfold gIsNot at e
  split at e
  · cases e
    exact op_notN pins s σ H x y v u Q I rx ry ⟨sb, by rw [isNon_of sa]; exact q _ H (Same.refl _) rfl⟩
  · cases e
    exact op_notBl pins s σ H x y v u Q I rx ry ⟨_, _, sa, sb, q _ H (Same.refl _) rfl⟩
  · cases e

/-! ### in: lists of data; tuples of flat things -/
def flatD : D → Bool
  | .non => true
  | .bl _ => true
  | .int _ => true
  | _ => false
def toV : D → V
  | .non => .non
  | .bl b => .bl b
  | .int i => .int i
  | _ => .non
theorem toV_of {R : Addr → Prop} {H : Hp} {d : D} {v : V} (h : Sd G R H d v) (f : flatD d = true) : v = toV d ∧ flatV v = true := by
  cases d with
  | non => exact ⟨h, by rw [show v = .non from h]; rfl⟩
  | bl b => exact ⟨h, by rw [show v = .bl b from h]; rfl⟩
  | int b => exact ⟨h, by rw [show v = .int b from h]; rfl⟩
  | _ => cases f
theorem toV_all {R : Addr → Prop} {H : Hp} : ∀ {ds : List D} {vs : List V}, SdL G R H ds vs → ds.all flatD = true → vs = ds.map toV ∧ vs.all flatV = true
  | [], _, h, _ => by rw [show _ = [] from h]; exact ⟨rfl, rfl⟩
  | d :: ds, _, h, f => by
    obtain ⟨v, vr, e, h1, h2⟩ := h
    subst e
    rw [List.all_cons, Bool.and_eq_true] at f
    obtain ⟨a1, a2⟩ := toV_of h1 f.1
    obtain ⟨b1, b2⟩ := toV_all h2 f.2
    exact ⟨by rw [List.map_cons, ← a1, ← b1], by rw [List.all_cons, a2, b2]; rfl⟩
def inL (d : D) (ds : List D) : Bool := (pyL ds).any fun z => PyData.eqv z (py d)
def gIn (neg : Bool) : D → D → Option D
  | d, .lst ds => if okPy d && okPy (.lst ds) then some (.bl (if neg then !inL d ds else inL d ds)) else none
  | d, .tup ds => if flatD d && ds.all flatD then some (.bl (if neg then !inV (toV d) (ds.map toV) else inV (toV d) (ds.map toV))) else none
  | _, _ => none
theorem o_in {k : Nat} (hr : Room k X.A) : OpR X (compareOp .In) (rD G (gIn false)) := by
  intro pins s σ H x y v u Q I rx ry h
  obtain ⟨R, a, b, d, hn, sa, sb, e, q⟩ := h
  unfold gIn at e
  split at e
  · split at e
    · rename_i hk
      cases e
      obtain ⟨k1, k2, k3, k4⟩ := okPy_and hk
      have hu := hr.un
      exact op_inD (by omega) pins s σ H x y v u Q I rx ry ⟨_, _, Sd.dp _ _ sa k1, Sd.dp _ _ sb k3, k2, k4, q _ H (Same.refl _) rfl⟩
    · cases e
  · split at e
    · rename_i hk
      cases e
      rw [Bool.and_eq_true] at hk
      obtain ⟨p2, us, rfl, h2, s2⟩ := sb
      obtain ⟨e1, f1⟩ := toV_of sa hk.1
      obtain ⟨e2, f2⟩ := toV_all s2 hk.2
      refine op_in_seq pins s σ H x _ v u Q I rx ry ⟨p2, us, rfl, .inr (SqT.of h2), f1, f2, ?_⟩
      rw [e1, e2]
      exact q _ H (Same.refl _) rfl
    · cases e
  · cases e
theorem o_notin {k : Nat} (hr : Room k X.A) : OpR X (compareOp .NotIn) (rD G (gIn true)) := by
  intro pins s σ H x y v u Q I rx ry h
  obtain ⟨R, a, b, d, hn, sa, sb, e, q⟩ := h
  unfold gIn at e
  split at e
  · split at e
    · rename_i hk
      cases e
      obtain ⟨k1, k2, k3, k4⟩ := okPy_and hk
      have hu := hr.un
      exact op_notInD (by omega) pins s σ H x y v u Q I rx ry ⟨_, _, Sd.dp _ _ sa k1, Sd.dp _ _ sb k3, k2, k4, q _ H (Same.refl _) rfl⟩
    · cases e
  · split at e
    · rename_i hk
      cases e
      rw [Bool.and_eq_true] at hk
      obtain ⟨p2, us, rfl, h2, s2⟩ := sb
      obtain ⟨e1, f1⟩ := toV_of sa hk.1
      obtain ⟨e2, f2⟩ := toV_all s2 hk.2
      refine op_notIn_seq pins s σ H x _ v u Q I rx ry ⟨p2, us, rfl, .inr (SqT.of h2), f1, f2, ?_⟩
      rw [e1, e2]
      exact q _ H (Same.refl _) rfl
    · cases e
  · cases e
end

/-! ### and, or, not, if -/
section
variable {X : Cx} {G : Gp} {own : List Nat} {pos : Pos} {a b c : Expr} {rest : List Expr}
def dNeg : TD → TD := fun f ρ => match f ρ with
  | some (.int i, ρ') => some (.int (-i), ρ')
  | _ => none
theorem vneg {f : TD} (h : PE X a (tD G own f)) : PE X (.UnaryOp .USub a pos) (tD G own (dNeg f)) := PE.weak (pe_un un_neg h) fun σ H Q w => by
  obtain ⟨B, ρ, d, ρ', E, e, q⟩ := w
  unfold dNeg at e
  split at e
  · rename_i i ρ1 ef
    cases e
    exact ⟨B, ρ, _, _, E, ef, fun v H' E' k s => ⟨i, s, q _ H' E' k rfl⟩⟩
  · cases e
def bNot (f : BD) : BD := fun ρ => (f ρ).map fun p => (!p.1, p.2)
theorem tnot {f : BD} (h : PT X a (tT G own f)) : PT X (.UnaryOp .Not a pos) (tT G own (bNot f)) := PT.weak (pt_not h) fun σ H Q w => by
  obtain ⟨B, ρ, b, ρ', E, e, q⟩ := w
  unfold bNot at e
  cases ef : f ρ with
  | none => rw [ef] at e; cases e
  | some p =>
    rw [ef] at e
    cases e
    exact ⟨B, ρ, p.1, p.2, E, ef, fun H' E' k => q H' E' k⟩
def dNot (f : TD) : TD := fun ρ => match f ρ with
  | some (.bl b, ρ') => some (.bl (!b), ρ')
  | _ => none
theorem vnot {f : TD} (h : PE X a (tD G own f)) : PE X (.UnaryOp .Not a pos) (tD G own (dNot f)) := PE.weak (pe_not h) fun σ H Q w => by
  obtain ⟨B, ρ, d, ρ', E, e, q⟩ := w
  unfold dNot at e
  split at e
  · rename_i b ρ1 ef
    cases e
    exact ⟨B, ρ, _, _, E, ef, fun v H' E' k s => ⟨b, s, q _ H' E' k rfl⟩⟩
  · cases e
def bAnd (f g : BD) : BD := fun ρ => match f ρ with
  | some (true, ρ') => g ρ'
  | some (false, ρ') => some (false, ρ')
  | none => none
def bOr (f g : BD) : BD := fun ρ => match f ρ with
  | some (false, ρ') => g ρ'
  | some (true, ρ') => some (true, ρ')
  | none => none
theorem wand1 {f : BD} (h : PT X a (tT G own f)) : PW X (.BoolOp .And [a] pos) (tT G own f) := pw_and1 h
theorem wor1 {f : BD} (h : PT X a (tT G own f)) : PW X (.BoolOp .Or [a] pos) (tT G own f) := pw_or1 h
theorem wand {f g : BD} (h : PT X a (tT G own f)) (k : PW X (.BoolOp .And (b :: rest) pos) (tT G own g)) : PW X (.BoolOp .And (a :: b :: rest) pos) (tT G own (bAnd f g)) := PW.weak (pw_and h k) fun σ H Q w => by
  obtain ⟨B, ρ, r, ρ', E, e, q⟩ := w
  unfold bAnd at e
  split at e
  · rename_i ρ1 ef
    exact ⟨B, ρ, _, _, E, ef, fun H' E' k => iteT ⟨B, ρ1, r, ρ', E', e, fun H2 E2 k2 => q H2 E2 (k.trans k2)⟩⟩
  · rename_i ρ1 ef
    cases e
    exact ⟨B, ρ, _, _, E, ef, fun H' E' k => iteF (q H' E' k)⟩
  · cases e
theorem wor {f g : BD} (h : PT X a (tT G own f)) (k : PW X (.BoolOp .Or (b :: rest) pos) (tT G own g)) : PW X (.BoolOp .Or (a :: b :: rest) pos) (tT G own (bOr f g)) := PW.weak (pw_or h k) fun σ H Q w => by
  obtain ⟨B, ρ, r, ρ', E, e, q⟩ := w
  unfold bOr at e
  split at e
  · rename_i ρ1 ef
    exact ⟨B, ρ, _, _, E, ef, fun H' E' k => iteF ⟨B, ρ1, r, ρ', E', e, fun H2 E2 k2 => q H2 E2 (k.trans k2)⟩⟩
  · rename_i ρ1 ef
    cases e
    exact ⟨B, ρ, _, _, E, ef, fun H' E' k => iteT (q H' E' k)⟩
  · cases e
def dAnd (f g : TD) : TD := fun ρ => match f ρ with
  | some (.bl true, ρ') => g ρ'
  | some (.bl false, ρ') => some (.bl false, ρ')
  | _ => none
def dOr (f g : TD) : TD := fun ρ => match f ρ with
  | some (.bl false, ρ') => g ρ'
  | some (.bl true, ρ') => some (.bl true, ρ')
  | _ => none
theorem vone {op : BoolOp} {f : TD} (h : PE X a (tD G own f)) : PE X (.BoolOp op [a] pos) (tD G own f) := pe_one h
theorem vand {f g : TD} (h : PE X a (tD G own f)) (k : PE X (.BoolOp .And (b :: rest) pos) (tD G own g)) : PE X (.BoolOp .And (a :: b :: rest) pos) (tD G own (dAnd f g)) := PE.weak (pe_and h k) fun σ H Q w => by
  obtain ⟨B, ρ, r, ρ', E, e, q⟩ := w
  unfold dAnd at e
  split at e
  · rename_i ρ1 ef
    exact ⟨B, ρ, _, _, E, ef, fun v H' E' k s => ⟨true, s, iteT ⟨B, ρ1, r, ρ', E', e, fun v H2 E2 k2 s2 => q v H2 E2 (k.trans k2) s2⟩⟩⟩
  · rename_i ρ1 ef
    cases e
    exact ⟨B, ρ, _, _, E, ef, fun v H' E' k s => ⟨false, s, iteF (q _ H' E' k rfl)⟩⟩
  · cases e
theorem vor {f g : TD} (h : PE X a (tD G own f)) (k : PE X (.BoolOp .Or (b :: rest) pos) (tD G own g)) : PE X (.BoolOp .Or (a :: b :: rest) pos) (tD G own (dOr f g)) := PE.weak (pe_or h k) fun σ H Q w => by
  obtain ⟨B, ρ, r, ρ', E, e, q⟩ := w
  unfold dOr at e
  split at e
  · rename_i ρ1 ef
    exact ⟨B, ρ, _, _, E, ef, fun v H' E' k s => ⟨false, s, iteF ⟨B, ρ1, r, ρ', E', e, fun v H2 E2 k2 s2 => q v H2 E2 (k.trans k2) s2⟩⟩⟩
  · rename_i ρ1 ef
    cases e
    exact ⟨B, ρ, _, _, E, ef, fun v H' E' k s => ⟨true, s, iteT (q _ H' E' k rfl)⟩⟩
  · cases e
def dIf (c : BD) (f g : TD) : TD := fun ρ => match c ρ with
  | some (true, ρ') => f ρ'
  | some (false, ρ') => g ρ'
  | none => none
theorem vif {t : BD} {f g : TD} (hc : PT X c (tT G own t)) (h : PE X a (tD G own f)) (k : PE X b (tD G own g)) : PE X (.IfExp c a b pos) (tD G own (dIf t f g)) := PE.weak (pe_ifExp hc h k) fun σ H Q w => by
  obtain ⟨B, ρ, r, ρ', E, e, q⟩ := w
  unfold dIf at e
  split at e
  · rename_i ρ1 ef
    exact ⟨B, ρ, _, _, E, ef, fun H' E' k => iteT ⟨B, ρ1, r, ρ', E', e, fun v H2 E2 k2 s2 => q v H2 E2 (k.trans k2) s2⟩⟩
  · rename_i ρ1 ef
    exact ⟨B, ρ, _, _, E, ef, fun H' E' k => iteF ⟨B, ρ1, r, ρ', E', e, fun v H2 E2 k2 s2 => q v H2 E2 (k.trans k2) s2⟩⟩
  · cases e
/-- a op1 b op2 c -/
def dChain (g1 g2 : D → D → Option D) (fa fb fc : TD) : TD := fun ρ => (fa ρ).bind fun p => (fb p.2).bind fun q => match g1 p.1 q.1 with
  | some (.bl true) => (fc q.2).bind fun r => (g2 q.1 r.1).map fun d => (d, r.2)
  | some (.bl false) => some (.bl false, q.2)
  | _ => none
theorem chain_two {g1 g2 : D → D → Option D} {fa fb fc : TD} {σ : St} {H : Hp} {Q : VK} (h : tD G own (dChain g1 g2 fa fb fc) σ H Q) : tChain (rD G g1) (rD G g2) (tD G own fa) (tD G own fb) (tD G own fc) σ H Q := by
  obtain ⟨B, ρ, d, ρ', E, e, q⟩ := h
  unfold dChain at e
  cases ea : fa ρ with
  | none => rw [ea] at e; cases e
  | some p =>
    rw [ea] at e
    cases eb : fb p.2 with
    | none => rw [Option.bind_some, eb] at e; cases e
    | some p2 =>
      rw [Option.bind_some, eb, Option.bind_some] at e
      refine ⟨B, ρ, p.1, p.2, E, ea, fun vx H1 E1 k1 s1 => ⟨B, p.2, p2.1, p2.2, E1, eb, fun vy H2 E2 k2 s2 => ?_⟩⟩
      split at e
      · rename_i eg
        refine ⟨RS B own σ, p.1, p2.1, _, E2.new, s1.ks E1 k2, s2, eg, fun v H3 x3 s3 => ⟨true, s3, iteT ?_⟩⟩
        cases ec : fc p2.2 with
        | none => rw [ec] at e; cases e
        | some p3 =>
          rw [ec, Option.bind_some] at e
          cases eg2 : g2 p2.1 p3.1 with
          | none => rw [eg2] at e; cases e
          | some d' =>
            rw [eg2] at e
            cases e
            refine ⟨B, p2.2, p3.1, p3.2, E2.ext x3, ec, fun vz H4 E4 k4 s4 => ?_⟩
            refine ⟨RS B own σ, p2.1, p3.1, d, E4.new, (s2.ext x3).ks (E2.ext x3) k4, s4, eg2, fun v H5 x5 s5 => ?_⟩
            exact q v H5 (E4.ext x5) ((((k1.trans k2).trans (KS.ext x3)).trans k4).trans (KS.ext x5)) s5
      · rename_i eg
        cases e
        exact ⟨RS B own σ, p.1, p2.1, _, E2.new, s1.ks E1 k2, s2, eg, fun v H3 x3 s3 => ⟨false, s3, iteF (q _ H3 (E2.ext x3) ((k1.trans k2).trans (KS.ext x3)) rfl)⟩⟩
      · cases e
theorem vchain {op op' : CmpOp} {g1 g2 : D → D → Option D} {fa fb fc : TD} (ho : OpR X (compareOp op) (rD G g1)) (ho' : OpR X (compareOp op') (rD G g2)) (ha : PE X a (tD G own fa)) (hb : PE X b (tD G own fb)) (hc : PE X c (tD G own fc))
    (hm : lastMarks [op, op'] [b, c] = false := by with_unfolding_all rfl) : PE X (.Compare a [op, op'] [b, c] pos) (tD G own (dChain g1 g2 fa fb fc)) := PE.weak (pe_chain ho ho' ha hb hc hm) fun _ _ _ h => chain_two h
theorem tchain {op op' : CmpOp} {g1 g2 : D → D → Option D} {fa fb fc : TD} (ho : OpR X (compareOp op) (rD G g1)) (ho' : OpR X (compareOp op') (rD G g2)) (ha : PE X a (tD G own fa)) (hb : PE X b (tD G own fb)) (hc : PE X c (tD G own fc))
    (hm : lastMarks [op, op'] [b, c] = false := by with_unfolding_all rfl) : PT X (.Compare a [op, op'] [b, c] pos) (tT G own (dT (dChain g1 g2 fa fb fc))) := PT.weak (pt_chain ho ho' ha hb hc hm) fun _ _ _ h => chain_two (t_test h)
end
end DL
end
section
set_option Elab.async false
set_option linter.all false
set_option maxRecDepth 100000
set_option autoImplicit false
/-! The data layer: displays, subscripts, slices, built-in calls. -/
namespace DL
open PySem PySem.Spec
open PyProof.Rows hiding St
open L2

section
variable {X : Cx} {G : Gp} {own : List Nat} {pos : Pos} {a b c e : Expr} {es rest : List Expr}
/-! ### argument lists, displays -/
def aNil : LD := fun ρ => some ([], ρ)
def aCons (f : TD) (g : LD) : LD := fun ρ => (f ρ).bind fun p => (g p.2).map fun q => (p.1 :: q.1, q.2)
theorem anil : PA X [] (tA G own aNil) := PA.weak pa_nil fun σ H Q w => by
  obtain ⟨B, ρ, ds, ρ', E, e, q⟩ := w
  cases e
  exact q [] H E KS.refl rfl
theorem acons {f : TD} {g : LD} (h : PE X e (tD G own f)) (k : PA X es (tA G own g)) (hs : starEach (e :: es) X.env = (false, eval e X.env) :: starEach es X.env := by rfl) : PA X (e :: es) (tA G own (aCons f g)) := PA.weak (pa_cons h k hs) fun σ H Q w => by
  obtain ⟨B, ρ, ds, ρ', E, e, q⟩ := w
  unfold aCons at e
  cases ef : f ρ with
  | none => rw [ef] at e; cases e
  | some p =>
    rw [ef, Option.bind_some] at e
    cases eg : g p.2 with
    | none => rw [eg] at e; cases e
    | some p2 =>
      rw [eg] at e
      cases e
      exact ⟨B, ρ, p.1, p.2, E, ef, fun v H1 E1 k1 s1 => ⟨B, p.2, p2.1, p2.2, E1, eg, fun vs H2 E2 k2 s2 => q _ H2 E2 (k1.trans k2) ⟨v, vs, rfl, s1.ks E1 k2, s2⟩⟩⟩
theorem line1000 {n : Nat} (h : n ≤ 1000) : n ≤ sizeLine := by rw [sizeLine_eq]; omega
def dTup (f : LD) : TD := fun ρ => (f ρ).bind fun p => if p.1.length ≤ 1000 then some (.tup p.1, p.2) else none
def dLst (f : LD) : TD := fun ρ => (f ρ).bind fun p => if p.1.length ≤ 1000 then some (.lst p.1, p.2) else none
theorem vtup {f : LD} {k : Nat} (h : PA X es (tA G own f)) : PE X (.Tuple es k pos) (tD G own (dTup f)) := PE.weak (pe_tup h) fun σ H Q w => by
  obtain ⟨B, ρ, d, ρ', E, e, q⟩ := w
  unfold dTup at e
  cases ef : f ρ with
  | none => rw [ef] at e; cases e
  | some p =>
    rw [ef, Option.bind_some] at e
    split at e
    · rename_i hl
      cases e
      refine ⟨B, ρ, p.1, p.2, E, ef, fun vs H1 E1 k1 s1 => ⟨line1000 (by rw [s1.length]; exact hl), fun a ha => ?_⟩⟩
      exact q _ _ (E1.ext (ext_upd ha)) (k1.trans (KS.ext (ext_upd ha))) ⟨a, vs, rfl, upd_same, s1.ext (ext_upd ha)⟩
    · cases e
theorem newp {R : Addr → Prop} {H : Hp} {p : Addr} {ds : List D} {vs : List V} (hp : H p = none) (s : SdL G R H ds vs) : SdL G (fun b => R b ∧ b ≠ p) H ds vs :=
  (SdL.mv Mv.tracked ds vs s).imp fun b r => ⟨r.1, fun z => by
    obtain ⟨u, q⟩ := r.2
    rw [z, hp] at q
    cases q⟩
theorem flst {f : LD} (h : PA X es (tA G own f)) : PE X (.List es pos) (tF G own (dLst f)) := PE.weak (pe_lst h) fun σ H Q w => by
  obtain ⟨B, ρ, ds, ρ', E, e, q⟩ := w
  unfold dLst at e
  cases ef : f ρ with
  | none => rw [ef] at e; cases e
  | some p =>
    rw [ef, Option.bind_some] at e
    split at e
    · rename_i hl
      cases e
      refine ⟨B, ρ, p.1, p.2, E, ef, fun vs H1 E1 k1 s1 => ⟨line1000 (by rw [s1.length]; exact hl), fun a ha => ?_⟩⟩
      exact q a vs H1 _ E1 k1 ha (ext_upd ha) upd_same ((newp ha s1).ext (ext_upd ha))
    · cases e
theorem vF {f : TD} (h : PE X e (tF G own f)) (hf : ∀ ρ d ρ', f ρ = some (d, ρ') → ∃ ds, d = .lst ds) : PE X e (tD G own f) := PE.weak h fun σ H Q w => by
  obtain ⟨B, ρ, d, ρ', E, e, q⟩ := w
  obtain ⟨ds, rfl⟩ := hf ρ d ρ' e
  exact ⟨B, ρ, ds, ρ', E, e, fun p vs H1 H' E1 k1 hp x h' s => q _ H' (E1.ext x) (k1.trans (KS.ext x)) ⟨p, vs, rfl, h', E1.new p hp, s.imp fun b r => r.1⟩⟩
theorem vlst {f : LD} (h : PA X es (tA G own f)) : PE X (.List es pos) (tD G own (dLst f)) := vF (flst h) fun ρ d ρ' e => by
  unfold dLst at e
  cases ef : f ρ with
  | none => rw [ef] at e; cases e
  | some p =>
    rw [ef, Option.bind_some] at e
    split at e
    · cases e
      exact ⟨_, rfl⟩
    · cases e

/-! ### subscripts -/
def gIx : D → D → Option D
  | .lst ds, .int i => atI ds i
  | .tup ds, .int i => atI ds i
  | _, _ => none
theorem atI_sd {R : Addr → Prop} {H : Hp} {ds : List D} {vs : List V} {i : Int} {d : D} (s : SdL G R H ds vs) (h : atI ds i = some d) : ∃ v, atI vs i = some v ∧ Sd G R H d v := by
  unfold atI at h ⊢
  rw [s.length]
  cases q : ixN ds.length i with
  | none => rw [q] at h; cases h
  | some j =>
    rw [q, Option.bind_some] at h
    exact s.get h
theorem x_ix : IxR X (rD G gIx) := by
  intro value slice pins s σ H x y v u Q I rx ry h hs
  obtain ⟨R, a, b, d, hn, sa, sb, e, q⟩ := h
  unfold gIx at e
  split at e
  · obtain ⟨p1, vs, rfl, h1, _, s1⟩ := sa
    obtain ⟨v1, e1, q1⟩ := atI_sd s1 e
    exact ix_list value slice pins s σ H _ y v u Q I rx ry ⟨p1, vs, _, v1, rfl, sb, SqL.of h1, e1, q v1 H (Same.refl _) q1⟩ hs
  · obtain ⟨p1, vs, rfl, h1, s1⟩ := sa
    obtain ⟨v1, e1, q1⟩ := atI_sd s1 e
    exact ix_tup value slice pins s σ H _ y v u Q I rx ry ⟨p1, vs, _, v1, rfl, sb, SqT.of h1, e1, q v1 H (Same.refl _) q1⟩ hs
  · cases e
theorem vix {f g : TD} (h : PE X a (tD G own f)) (k : PE X b (tD G own g)) (hs : PlainIx b := by exact fun _ _ => rfl) : PE X (.Subscript a b pos) (tD G own (dOp gIx f g)) := PE.weak (pe_ix x_ix h k hs) fun _ _ _ w => op_two w
/-- x op e, x a list that the def writes -/
def dO (i : Nat) (g : TD) (k : D → D → Option D) : TD := fun ρ => match ρ[i]? with
  | some (some _) => (g ρ).bind fun p => match p.2[i]? with
    | some (some d) => (k d p.1).map fun r => (r, p.2)
    | _ => none
  | _ => none
theorem dO_some {i : Nat} {g : TD} {k : D → D → Option D} {ρ ρ' : DE} {r : D} (h : dO i g k ρ = some (r, ρ')) : (∃ d0, ρ[i]? = some (some d0)) ∧ ∃ e d, g ρ = some (e, ρ') ∧ ρ'[i]? = some (some d) ∧ k d e = some r := by
  unfold dO at h
  split at h
  · rename_i d0 e0
    refine ⟨⟨d0, e0⟩, ?_⟩
    cases eg : g ρ with
    | none => rw [eg] at h; cases h
    | some p =>
      rw [eg, Option.bind_some] at h
      split at h
      · rename_i d' e1
        cases e2 : k d' p.1 with
        | none => rw [e2] at h; cases h
        | some d'' =>
          rw [e2] at h
          cases h
          exact ⟨p.1, d', rfl, e1, e2⟩
      · cases h
  · cases h
theorem ownAt {B : Bs} {ρ : DE} {σ : St} {H : Hp} (E : EnvOk G B own ρ σ H) {i : Nat} {d : D} (hi : own.contains i = true) (e : ρ[i]? = some (some d)) : ∃ a vs ds, d = .lst ds ∧ σ[i]? = some (some (.ref a)) ∧ H a = some (.lst vs) ∧ SdL G (RS B own σ) H ds vs :=
  let ⟨a, vs, ds, q1, q2, q3, q4, _⟩ := E.wr i d e (List.contains_iff_mem.mp hi)
  ⟨a, vs, ds, q1, q2, q3, q4⟩
theorem vixo (i : Nat) {x : Str} {g : TD} {xp : Pos} (k : PE X b (tD G own g)) (hi : own.contains i = true := by rfl) (hN : X.N[i]? = some x := by rfl) (hv : Vis X.env.scope x := by first | exact Or.inl rfl | exact Or.inr (Or.inl rfl) | exact Or.inr (Or.inr rfl))
    (hd : (x == ("__debug__" : Str)) = false := by decide) (hcd : (x == ("__classdict__" : Str)) = false := by decide) (hs : PlainIx b := by exact fun _ _ => rfl) : PE X (.Subscript (.Name x xp) b pos) (tD G own (dO i g gIx)) := by
  refine PE.weak (pe_ix ix_list (pe_var hN hv hd hcd) k hs) fun σ H Q w => ?_
  obtain ⟨B, ρ, r, ρ', E, e, q⟩ := w
  obtain ⟨⟨d0, e0⟩, d1, d, eg, e1, ek⟩ := dO_some e
  obtain ⟨a, _, _, _, ea, _⟩ := ownAt E hi e0
  refine ⟨.ref a, ea, B, ρ, d1, ρ', E, eg, fun v1 H1 E1 k1 s1 => ?_⟩
  obtain ⟨a', vs, ds, rfl, ea', ha, s⟩ := ownAt E1 hi e1
  rw [ea] at ea'
  cases ea'
  unfold gIx at ek
  split at ek
  · rename_i es i1 he
    cases he
    obtain ⟨v2, e2, s2⟩ := atI_sd s ek
    exact ⟨a, vs, _, v2, rfl, s1, SqL.of ha, e2, q v2 H1 E1 k1 s2⟩
  · rename_i he
    cases he
  · cases ek

/-! ### slices -/
abbrev OD := DE → Option (Option Int × DE)
def tO (G : Gp) (own : List Nat) (f : OD) : TO := fun σ H Q => ∃ B ρ o ρ', EnvOk G B own ρ σ H ∧ f ρ = some (o, ρ') ∧ ∀ H', EnvOk G B own ρ' σ H' → KS own σ H own σ H' → Q o H'
theorem PO.weak {e : Option Expr} {t t' : TO} (h : PO X e t) (w : ∀ σ H Q, t' σ H Q → t σ H Q) : PO X e t' := ⟨fun pins s σ H Q I q => h.run pins s σ H Q I (w σ H Q q)⟩
def oN : OD := fun ρ => some (none, ρ)
def oS (f : TD) : OD := fun ρ => match f ρ with
  | some (.int i, ρ') => some (some i, ρ')
  | _ => none
theorem on : PO X none (tO G own oN) := PO.weak po_none fun σ H Q w => by
  obtain ⟨B, ρ, o, ρ', E, e, q⟩ := w
  cases e
  exact q H E KS.refl
theorem os {f : TD} (h : PE X e (tD G own f)) : PO X (some e) (tO G own (oS f)) := PO.weak (po_some h) fun σ H Q w => by
  obtain ⟨B, ρ, o, ρ', E, e, q⟩ := w
  unfold oS at e
  split at e
  · rename_i i ρ1 ef
    cases e
    exact ⟨B, ρ, _, _, E, ef, fun v H' E' k s => ⟨i, s, q H' E' k⟩⟩
  · cases e
def cutD {α : Type} (xs : List α) (lo hi : Option Int) : List α := (xs.drop (HT.sIx xs.length 0 lo)).take (HT.sIx xs.length xs.length hi - HT.sIx xs.length 0 lo)
theorem cut_sd {R : Addr → Prop} {H : Hp} {ds : List D} {vs : List V} {lo hi : Option Int} (s : SdL G R H ds vs) : SdL G R H (cutD ds lo hi) (cutV vs lo hi) := by
  unfold cutD cutV
  rw [s.length]
  exact (s.drop _).take _
def gSl (lo hi : Option Int) : D → Option D
  | .lst ds => some (.lst (cutD ds lo hi))
  | .tup ds => some (.tup (cutD ds lo hi))
  | _ => none
def rSl (G : Gp) : V → Option Int → Option Int → Hp → VK → Prop := fun x lo hi H Q => ∃ R a d, (∀ p, H p = none → R p) ∧ Sd G R H a x ∧ gSl lo hi a = some d ∧ ∀ v H', Ext H H' → Sd G R H' d v → Q v H'
theorem x_sl : SlR X (rSl G) := by
  intro pins s σ H x v vl vu lo hi sl Q I rx hs pl pu h
  obtain ⟨R, a, d, hn, sa, e, q⟩ := h
  unfold gSl at e
  split at e
  · cases e
    obtain ⟨p1, vs, rfl, h1, _, s1⟩ := sa
    exact sl_list pins s σ H _ v vl vu lo hi sl Q I rx hs pl pu ⟨p1, vs, rfl, SqL.of h1, fun p hp => q _ _ (ext_upd hp) ⟨p, _, rfl, upd_same, hn p hp, (cut_sd s1).ext (ext_upd hp)⟩⟩
  · rename_i ds
    cases e
    obtain ⟨p1, vs, rfl, h1, s1⟩ := sa
    refine sl_tupA pins s σ H _ v vl vu lo hi sl Q I rx hs pl pu ⟨p1, vs, rfl, SqT.of h1, fun z => q _ H (Same.refl _) ⟨p1, vs, rfl, h1, ?_⟩, fun _ p hp => q _ _ (ext_upd hp) ⟨p, _, rfl, upd_same, (cut_sd s1).ext (ext_upd hp)⟩⟩
    rw [s1.length] at z
    have : cutD ds lo hi = ds := by
      unfold cutD
      rw [z.1, z.2, Nat.sub_zero, List.drop_zero, List.take_length]
    rw [this]
    exact s1
  · cases e
def dSl (f : TD) (l u : OD) : TD := fun ρ => (f ρ).bind fun p => (l p.2).bind fun q => (u q.2).bind fun r => (gSl q.1 r.1 p.1).map fun d => (d, r.2)
theorem vsl {f : TD} {l u : OD} {lo hi : Option Expr} {p2 : Pos} (h : PE X e (tD G own f)) (hl : PO X lo (tO G own l)) (hu : PO X hi (tO G own u)) : PE X (.Subscript e (.Slice lo hi none p2) pos) (tD G own (dSl f l u)) := PE.weak (pe_slice x_sl h hl hu) fun σ H Q w => by
  obtain ⟨B, ρ, d, ρ', E, e, q⟩ := w
  unfold dSl at e
  cases e1 : f ρ with
  | none => rw [e1] at e; cases e
  | some p1 =>
    rw [e1, Option.bind_some] at e
    cases e2 : l p1.2 with
    | none => rw [e2] at e; cases e
    | some p2 =>
      rw [e2, Option.bind_some] at e
      cases e3 : u p2.2 with
      | none => rw [e3] at e; cases e
      | some p3 =>
        rw [e3, Option.bind_some] at e
        cases e4 : gSl p2.1 p3.1 p1.1 with
        | none => rw [e4] at e; cases e
        | some d' =>
          rw [e4] at e
          cases e
          refine ⟨B, ρ, p1.1, p1.2, E, e1, fun v H1 E1 k1 s1 => ⟨B, p1.2, p2.1, p2.2, E1, e2, fun H2 E2 k2 => ⟨B, p2.2, p3.1, p3.2, E2, e3, fun H3 E3 k3 => ?_⟩⟩⟩
          exact ⟨RS B own σ, p1.1, d, E3.new, s1.ks E1 (k2.trans k3), e4, fun v H4 x4 s4 => q v H4 (E3.ext x4) (((k1.trans k2).trans k3).trans (KS.ext x4)) s4⟩
/-- xs[::-1] -/
def dRev (f : TD) : TD := fun ρ => match f ρ with
  | some (.lst ds, ρ') => some (.lst ds.reverse, ρ')
  | _ => none
theorem vrev {f : TD} {k : Nat} {p1 p2 p3 : Pos} (h : PE X e (tD G own f)) : PE X (.Subscript e (.Slice none none (some (.UnaryOp .USub (.Constant (.int 1) k p1) p2)) p3) pos) (tD G own (dRev f)) := PE.weak (pe_revL h) fun σ H Q w => by
  obtain ⟨B, ρ, d, ρ', E, e, q⟩ := w
  unfold dRev at e
  split at e
  · rename_i ds ρ1 ef
    cases e
    refine ⟨B, ρ, _, _, E, ef, fun v H1 E1 k1 s1 => ?_⟩
    obtain ⟨a, vs, rfl, ha, _, s⟩ := s1
    exact ⟨a, vs, rfl, SqL.of ha, fun p hp => q _ _ (E1.ext (ext_upd hp)) (k1.trans (KS.ext (ext_upd hp))) ⟨p, _, rfl, upd_same, E1.new p hp, s.reverse.ext (ext_upd hp)⟩⟩
  · cases e

/-! ### built-in calls -/
def cD (G : Gp) (g : List D → Option D) : List V → Hp → VK → Prop := fun xs H Q => ∃ R ds d, (∀ p, H p = none → R p) ∧ SdL G R H ds xs ∧ g ds = some d ∧ ∀ v H', Ext H H' → Sd G R H' d v → Q v H'
def dCb (g : List D → Option D) (f : LD) : TD := fun ρ => (f ρ).bind fun p => (g p.1).map fun d => (d, p.2)
theorem call_cb {g : List D → Option D} {f : LD} {σ : St} {H : Hp} {Q : VK} (w : tD G own (dCb g f) σ H Q) : tCB (cD G g) (tA G own f) σ H Q := by
  obtain ⟨B, ρ, d, ρ', E, e, q⟩ := w
  unfold dCb at e
  cases ef : f ρ with
  | none => rw [ef] at e; cases e
  | some p =>
    rw [ef, Option.bind_some] at e
    cases eg : g p.1 with
    | none => rw [eg] at e; cases e
    | some d' =>
      rw [eg] at e
      cases e
      exact ⟨B, ρ, p.1, p.2, E, ef, fun vs H1 E1 k1 s1 => ⟨RS B own σ, p.1, d, E1.new, s1, eg, fun v H2 x2 s2 => q v H2 (E1.ext x2) (k1.trans (KS.ext x2)) s2⟩⟩
theorem vcb {id : String} {x : Str} {p : Pos} {g : List D → Option D} {f : LD} (hc : CallR X (.builtin id) (cD G g)) (hg : Gl X x) (hm : X.mg x = none) (hv : bootBuiltins x = some (.builtin id)) (ha : PA X (e :: es) (tA G own f)) (hn : x ≠ "__name__" := by decide) (hdb : (x == ("__debug__" : Str)) = false := by decide)
    (he : starEach (e :: es) X.env = (false, eval e X.env) :: starEach es X.env := by rfl) (hpl : (backTo pos (starEach es X.env)).any (·.1) = false := by rfl) : PE X (.Call (.Name x p) (e :: es) [] pos) (tD G own (dCb g f)) :=
  PE.weak (pe_callB hc hg hm hv ha hn hdb he hpl) fun _ _ _ w => call_cb w
theorem vct {T : String} {x : Str} {p : Pos} {g : List D → Option D} {f : LD} (hc : CallR X (.type T) (cD G g)) (hg : Gl X x) (hm : X.mg x = none) (hv : bootBuiltins x = some (.type T)) (ha : PA X (e :: es) (tA G own f)) (hn : x ≠ "__name__" := by decide) (hdb : (x == ("__debug__" : Str)) = false := by decide)
    (he : starEach (e :: es) X.env = (false, eval e X.env) :: starEach es X.env := by rfl) (hpl : (backTo pos (starEach es X.env)).any (·.1) = false := by rfl) : PE X (.Call (.Name x p) (e :: es) [] pos) (tD G own (dCb g f)) :=
  PE.weak (pe_callTy hc hg hm hv ha hn hdb he hpl) fun _ _ _ w => call_cb w
def gLen : List D → Option D
  | [.lst ds] => some (.int ds.length)
  | [.tup ds] => some (.int ds.length)
  | _ => none
theorem one_of {R : Addr → Prop} {H : Hp} {d : D} {xs : List V} (h : SdL G R H [d] xs) : ∃ v, xs = [v] ∧ Sd G R H d v := by
  obtain ⟨v, vr, e, h1, h2⟩ := h
  rw [show vr = [] from h2] at e
  exact ⟨v, e, h1⟩
theorem two_of {R : Addr → Prop} {H : Hp} {d d' : D} {xs : List V} (h : SdL G R H [d, d'] xs) : ∃ v u, xs = [v, u] ∧ Sd G R H d v ∧ Sd G R H d' u := by
  obtain ⟨v, vr, e, h1, h2⟩ := h
  obtain ⟨u, e2, h3⟩ := one_of h2
  rw [e2] at e
  exact ⟨v, u, e, h1, h3⟩
theorem b_len : CallR X (.builtin "len") (cD G gLen) := by
  intro pins s σ H xs us Q I r h
  obtain ⟨R, ds, d, hn, sa, e, q⟩ := h
  unfold gLen at e
  split at e
  · cases e
    obtain ⟨v, rfl, p, vs, rfl, ha, _, s1⟩ := one_of sa
    exact call_len_seq pins s σ H _ us Q I r ⟨p, vs, rfl, .inl (SqL.of ha), by rw [s1.length]; exact q _ H (Same.refl _) rfl⟩
  · cases e
    obtain ⟨v, rfl, p, vs, rfl, ha, s1⟩ := one_of sa
    exact call_len_seq pins s σ H _ us Q I r ⟨p, vs, rfl, .inr (SqT.of ha), by rw [s1.length]; exact q _ H (Same.refl _) rfl⟩
  · cases e
def gAbs : List D → Option D
  | [.int i] => some (.int (if i < 0 then -i else i))
  | _ => none
theorem b_abs : CallR X (.builtin "abs") (cD G gAbs) := by
  intro pins s σ H xs us Q I r h
  obtain ⟨R, ds, d, hn, sa, e, q⟩ := h
  unfold gAbs at e
  split at e
  · cases e
    obtain ⟨v, rfl, sv⟩ := one_of sa
    exact call_abs pins s σ H _ us Q I r ⟨_, congrArg (fun z => [z]) sv, q _ H (Same.refl _) rfl⟩
  · cases e
def gMin : List D → Option D
  | [.int i, .int j] => some (.int (if j < i then j else i))
  | _ => none
theorem b_min (hc : X.calm = true) : CallR X (.builtin "min") (cD G gMin) := by
  intro pins s σ H xs us Q I r h
  obtain ⟨R, ds, d, hn, sa, e, q⟩ := h
  unfold gMin at e
  split at e
  · cases e
    obtain ⟨v, u, rfl, sv, su⟩ := two_of sa
    rw [show v = _ from sv, show u = _ from su] at r
    exact call_min2 hc pins s σ H _ us Q I r ⟨_, _, rfl, q _ H (Same.refl _) rfl⟩
  · cases e
def gInt : List D → Option D
  | [.int i] => some (.int i)
  | [.bl k] => some (.int (if k then 1 else 0))
  | _ => none
theorem b_int : CallR X (.type "int") (cD G gInt) := by
  intro pins s σ H xs us Q I r h
  obtain ⟨R, ds, d, hn, sa, e, q⟩ := h
  unfold gInt at e
  split at e
  · cases e
    obtain ⟨v, rfl, sv⟩ := one_of sa
    exact call_int1 pins s σ H _ us Q I r (.inl ⟨_, congrArg (fun z => [z]) sv, q _ H (Same.refl _) rfl⟩)
  · cases e
    obtain ⟨v, rfl, sv⟩ := one_of sa
    exact call_int1 pins s σ H _ us Q I r (.inr ⟨_, congrArg (fun z => [z]) sv, q _ H (Same.refl _) rfl⟩)
  · cases e
def gTuple : List D → Option D
  | [.lst ds] => some (.tup ds)
  | _ => none
theorem b_tuple : CallR X (.type "tuple") (cD G gTuple) := by
  intro pins s σ H xs us Q I r h
  obtain ⟨R, ds, d, hn, sa, e, q⟩ := h
  unfold gTuple at e
  split at e
  · cases e
    obtain ⟨v, rfl, p, vs, rfl, ha, _, s1⟩ := one_of sa
    exact call_tuple_of pins s σ H _ us Q I r ⟨p, vs, rfl, .inl ⟨SqL.of ha, fun l hl => q _ _ (ext_upd hl) ⟨l, vs, rfl, upd_same, s1.ext (ext_upd hl)⟩⟩⟩
  · cases e
/-- a list of truths -/
def bools : List D → Option (List Bool)
  | [] => some []
  | .bl b :: ds => (bools ds).map fun bs => b :: bs
  | _ :: _ => none
theorem bools_sd {R : Addr → Prop} {H : Hp} : ∀ {ds : List D} {vs : List V} {bs : List Bool}, SdL G R H ds vs → bools ds = some bs → vs = bs.map V.bl
  | [], _, _, h, e => by
    cases e
    exact h
  | .bl b :: ds, _, _, h, e => by
    obtain ⟨v, vr, e', h1, h2⟩ := h
    unfold bools at e
    cases q : bools ds with
    | none => rw [q] at e; cases e
    | some bs =>
      rw [q] at e
      cases e
      rw [e', bools_sd h2 q, show v = .bl b from h1]
      rfl
  | .non :: _, _, _, _, e => by cases e
  | .int _ :: _, _, _, _, e => by cases e
  | .str _ :: _, _, _, _, e => by cases e
  | .tup _ :: _, _, _, _, e => by cases e
  | .lst _ :: _, _, _, _, e => by cases e
  | .node _ _ _ _ :: _, _, _, _, e => by cases e
  | .dic _ _ :: _, _, _, _, e => by cases e
  | .opq _ :: _, _, _, _, e => by cases e
def gAll : List D → Option D
  | [.lst ds] => (bools ds).map fun bs => .bl (bs.all id)
  | _ => none
theorem b_all (hc : X.calm = true) : CallR X (.builtin "all") (cD G gAll) := by
  intro pins s σ H xs us Q I r h
  obtain ⟨R, ds, d, hn, sa, e, q⟩ := h
  unfold gAll at e
  split at e
  · rename_i es
    cases eb : bools es with
    | none => rw [eb] at e; cases e
    | some bs =>
      rw [eb] at e
      cases e
      obtain ⟨v, rfl, p, vs, rfl, ha, _, s1⟩ := one_of sa
      obtain rfl := bools_sd s1 eb
      exact cr_all hc pins s σ H _ us Q I r ⟨p, bs, rfl, SqL.of ha, q _ H (Same.refl _) rfl⟩
  · cases e
end
end DL
end
section
set_option Elab.async false
set_option linter.all false
set_option maxRecDepth 100000
set_option autoImplicit false
/-! The data layer: kinds, lists that a def writes, ranges as lists, nodes, calls of the text's defs. -/
namespace DL
open PySem PySem.Spec
open PyProof.Rows hiding St
open L2

section
variable {X : Cx} {G : Gp} {own : List Nat} {pos : Pos} {a b c e : Expr} {es rest : List Expr}
/-! ### isinstance -/
def tyName : D → Option String
  | .non => some "NoneType"
  | .bl _ => some "bool"
  | .int _ => some "int"
  | .str _ => some "str"
  | .tup _ => some "tuple"
  | .lst _ => some "list"
  | _ => none
theorem tyName_of {K : PySem.W.Frag} {R : Addr → Prop} {H : Hp} {d : D} {v : V} {n : String} (h : Sd G R H d v) (e : tyName d = some n) : TyX K H v (.type n) := by
  cases d with
  | non => cases e; rw [show v = .non from h]; exact .base .non
  | bl b => cases e; rw [show v = .bl b from h]; exact .base (.bl b)
  | int b => cases e; rw [show v = .int b from h]; exact .base (.int b)
  | str b => cases e; rw [show v = .str b from h]; exact .base (.str b)
  | tup ds => cases e; obtain ⟨_, _, e, h1, _⟩ := h; rw [e]; exact .base (.tup h1)
  | lst ds => cases e; obtain ⟨_, _, e, h1, _⟩ := h; rw [e]; exact .base (.lst h1)
  | node _ _ _ _ => cases e
  | dic _ _ => cases e
  | opq _ => cases e
def dIsi (T : String) (f : TD) : TD := fun ρ => (f ρ).bind fun p => ((tyName p.1).bind fun n => kitB n T).map fun b => (.bl b, p.2)
theorem visi {T : String} {x y : Str} {p py : Pos} {f : TD} (hg : Gl X x) (hm : X.mg x = none) (hv : bootBuiltins x = some (.builtin "isinstance")) (gT : Gl X y) (mT : X.mg y = none) (vT : bootBuiltins y = some (.type T)) (h : PE X e (tD G own f))
    (hn : x ≠ "__name__" := by decide) (hdb : (x == ("__debug__" : Str)) = false := by decide) (hn2 : y ≠ "__name__" := by decide) (hdb2 : (y == ("__debug__" : Str)) = false := by decide)
    (he : starEach [e, .Name y py] X.env = (false, eval e X.env) :: starEach [.Name y py] X.env := by rfl) (he2 : starEach [.Name y py] X.env = (false, eval (.Name y py) X.env) :: starEach [] X.env := by rfl)
    (hpl : (backTo pos (starEach [.Name y py] X.env)).any (·.1) = false := by rfl) :
    PE X (.Call (.Name x p) [e, .Name y py] [] pos) (tD G own (dIsi T f)) := by
  refine PE.weak (pe_callB call_isi hg hm hv (pa_cons h (pa_cons (pe_bltn (v := .ty T) gT mT vT rfl hn2 hdb2) pa_nil he2) he) hn hdb he hpl) fun σ H Q w => ?_
  obtain ⟨B, ρ, d, ρ', E, e, q⟩ := w
  unfold dIsi at e
  cases ef : f ρ with
  | none => rw [ef] at e; cases e
  | some p1 =>
    rw [ef, Option.bind_some] at e
    cases en : tyName p1.1 with
    | none => rw [en] at e; cases e
    | some n =>
      rw [en, Option.bind_some] at e
      cases ek : kitB n T with
      | none => rw [ek] at e; cases e
      | some b =>
        rw [ek] at e
        cases e
        exact ⟨B, ρ, p1.1, p1.2, E, ef, fun v H1 E1 k1 s1 => ⟨v, .ty T, .type n, .type T, b, rfl, .ty T, tyName_of s1 en, kit_ty ek, q _ H1 E1 k1 rfl⟩⟩

/-! ### a list that the def writes: its length, what is in it, whether it is empty -/
def dOwn (i : Nat) (k : List D → Option D) : TD := fun ρ => match ρ[i]? with
  | some (some (.lst ds)) => (k ds).map fun d => (d, ρ)
  | _ => none
theorem dOwn_some {i : Nat} {k : List D → Option D} {ρ ρ' : DE} {r : D} (h : dOwn i k ρ = some (r, ρ')) : ρ' = ρ ∧ ∃ ds, ρ[i]? = some (some (.lst ds)) ∧ k ds = some r := by
  unfold dOwn at h
  split at h
  · rename_i ds e
    cases ek : k ds with
    | none => rw [ek] at h; cases h
    | some d =>
      rw [ek] at h
      cases h
      exact ⟨rfl, ds, e, ek⟩
  · cases h
theorem vleno (i : Nat) {x y : Str} {p py : Pos} (hg : Gl X x) (hm : X.mg x = none) (hv : bootBuiltins x = some (.builtin "len")) (hi : own.contains i = true := by rfl) (hN : X.N[i]? = some y := by rfl)
    (hy : Vis X.env.scope y := by first | exact Or.inl rfl | exact Or.inr (Or.inl rfl) | exact Or.inr (Or.inr rfl)) (hd : (y == ("__debug__" : Str)) = false := by decide) (hcd : (y == ("__classdict__" : Str)) = false := by decide)
    (hn : x ≠ "__name__" := by decide) (hdb : (x == ("__debug__" : Str)) = false := by decide) (he : starEach [.Name y py] X.env = (false, eval (.Name y py) X.env) :: starEach [] X.env := by rfl) (hpl : (backTo pos (starEach [] X.env)).any (·.1) = false := by rfl) :
    PE X (.Call (.Name x p) [.Name y py] [] pos) (tD G own (dOwn i fun ds => some (.int ds.length))) := by
  refine PE.weak (pe_callB call_len_seq hg hm hv (pa_cons (pe_var hN hy hd hcd) pa_nil he) hn hdb he hpl) fun σ H Q w => ?_
  obtain ⟨B, ρ, d, ρ', E, e, q⟩ := w
  obtain ⟨rfl, ds, e1, e2⟩ := dOwn_some e
  cases e2
  obtain ⟨a, vs, _, hz, ea, ha, s⟩ := ownAt E hi e1
  cases hz
  exact ⟨.ref a, ea, a, vs, rfl, .inl (SqL.of ha), by rw [s.length]; exact q _ H E KS.refl rfl⟩
/-- e not in x -/
def dNotInO (f : TD) (i : Nat) : TD := fun ρ => (f ρ).bind fun p => match p.2[i]? with
  | some (some (.lst ds)) => if okPy p.1 && okPy (.lst ds) then some (.bl (!inL p.1 ds), p.2) else none
  | _ => none
theorem nino {k : Nat} (hr : Room k X.A) (i : Nat) {y : Str} {f : TD} {py : Pos} (h : PE X a (tD G own f)) (hi : own.contains i = true := by rfl) (hN : X.N[i]? = some y := by rfl)
    (hy : Vis X.env.scope y := by first | exact Or.inl rfl | exact Or.inr (Or.inl rfl) | exact Or.inr (Or.inr rfl)) (hd : (y == ("__debug__" : Str)) = false := by decide) (hcd : (y == ("__classdict__" : Str)) = false := by decide) (hm : behindInMarks .NotIn (.Name y py) = false := by rfl) :
    PT X (.Compare a [.NotIn] [.Name y py] pos) (tT G own (dT (dNotInO f i))) := by
  have hu := hr.un
  refine PT.weak (pt_cmpR (op_notInD (by omega)) h (pe_var hN hy hd hcd) hm) fun σ H Q w => ?_
  obtain ⟨B, ρ, b, ρ', E, e, q⟩ := w
  have e := dT_some e
  unfold dNotInO at e
  cases ef : f ρ with
  | none => rw [ef] at e; cases e
  | some p =>
    rw [ef, Option.bind_some] at e
    split at e
    · rename_i ds e1
      split at e
      · rename_i hk
        cases e
        obtain ⟨k1, k2, k3, k4⟩ := okPy_and hk
        refine ⟨B, ρ, p.1, p.2, E, ef, fun v H1 E1 k s1 => ?_⟩
        obtain ⟨a, vs, _, hz, ea, ha, s⟩ := ownAt E1 hi e1
        cases hz
        exact ⟨.ref a, ea, _, _, Sd.dp _ _ s1 k1, .lst (SqL.of ha) (SdL.dp _ _ s (by simpa [isPy] using k3)), k2, k4, _, rfl, q H1 E1 k⟩
      · cases e
    · cases e
/-- e != [] -/
def notNil : D → Option D
  | .lst ds => some (.bl (!ds.isEmpty))
  | _ => none
theorem cmp_nil {pins : List (Addr × Obj)} {s : Shared} {σ : St} {H : Hp} {p l : Addr} {vs : List V} {v u : Value} {Q : VK} {k : Nat} (hr : Room k X.A) (I : Inv X pins σ H s) (rx : RelV (.ref p) v) (ry : RelV (.ref l) u) (hp : H p = some (.lst vs)) (hl : H l = some (.lst []))
    (q : Q (.bl (!vs.isEmpty)) H) : wpAny (model X.prog X.w) X.A (compareOp .NotEq v u) (EP X pins σ Q) X.xe s := by
  cases rx
  cases ry
  obtain ⟨its, r1, p1, _⟩ := I.list (SqL.of hp)
  obtain ⟨its2, r2, p2, _⟩ := I.list (SqL.of hl)
  cases r2
  have hu := hr.un
  cases vs with
  | nil =>
    cases r1
    exact SeqAt.RcNeAt.lists (e := fun _ => true) p1.isList p2.isList rfl (by omega) (fun j h1 _ => absurd h1 (Nat.not_lt_zero _)) X.prog X.w _ _ ⟨.bl false, H, I, rfl, q⟩
  | cons x r =>
    cases r1 with
    | cons _ _ => exact SeqAt.RcNeAt.lists_lengths p1.isList p2.isList rfl (by omega) X.prog X.w _ _ ⟨.bl true, H, I, rfl, q⟩
def dNN (f : TD) : TD := fun ρ => (f ρ).bind fun p => (notNil p.1).map fun d => (d, p.2)
def rNN : R2 := fun x y H Q => ∃ p l vs, x = .ref p ∧ y = .ref l ∧ H p = some (.lst vs) ∧ H l = some (.lst []) ∧ Q (.bl (!vs.isEmpty)) H
theorem o_nn {k : Nat} (hr : Room k X.A) : OpR X (compareOp .NotEq) rNN := by
  intro pins s σ H x y v u Q I rx ry h
  obtain ⟨p, l, vs, rfl, rfl, hp, hl, q⟩ := h
  exact cmp_nil hr I rx ry hp hl q
theorem isEmpty_sd {R : Addr → Prop} {H : Hp} {ds : List D} {vs : List V} (s : SdL G R H ds vs) : vs.isEmpty = ds.isEmpty := by
  have l := s.length
  cases ds <;> cases vs <;> first | rfl | cases l
theorem nn_two {f : TD} {σ : St} {H : Hp} {Q : VK} (w : tD G own (dNN f) σ H Q) : tOp rNN (tD G own f) (tLst tNil) σ H Q := by
  obtain ⟨B, ρ, d, ρ', E, e, q⟩ := w
  unfold dNN at e
  cases ef : f ρ with
  | none => rw [ef] at e; cases e
  | some p =>
    rw [ef, Option.bind_some] at e
    cases en : notNil p.1 with
    | none => rw [en] at e; cases e
    | some d' =>
      rw [en] at e
      cases e
      refine ⟨B, ρ, p.1, p.2, E, ef, fun v H1 E1 k1 s1 => ⟨Nat.zero_le _, fun l hl => ?_⟩⟩
      unfold notNil at en
      split at en
      · rename_i ds ed
        cases en
        rw [ed] at s1
        obtain ⟨a, vs, rfl, ha, _, s⟩ := s1
        exact ⟨a, l, vs, rfl, rfl, ext_upd hl _ _ ha, upd_same, by rw [isEmpty_sd s]; exact q _ _ (E1.ext (ext_upd hl)) (k1.trans (KS.ext (ext_upd hl))) rfl⟩
      · cases en
theorem tnn {k : Nat} (hr : Room k X.A) {f : TD} {lp : Pos} (h : PE X a (tD G own f)) : PT X (.Compare a [.NotEq] [.List [] lp] pos) (tT G own (dT (dNN f))) :=
  PT.weak (pt_cmpR (o_nn hr) h (pe_lst pa_nil) (nomark _)) fun _ _ _ w => nn_two (t_test w)
theorem tnno {k : Nat} (hr : Room k X.A) (i : Nat) {y : Str} {py lp : Pos} (hi : own.contains i = true := by rfl) (hN : X.N[i]? = some y := by rfl)
    (hy : Vis X.env.scope y := by first | exact Or.inl rfl | exact Or.inr (Or.inl rfl) | exact Or.inr (Or.inr rfl)) (hd : (y == ("__debug__" : Str)) = false := by decide) (hcd : (y == ("__classdict__" : Str)) = false := by decide) :
    PT X (.Compare (.Name y py) [.NotEq] [.List [] lp] pos) (tT G own (dT (dOwn i fun ds => some (.bl (!ds.isEmpty))))) := by
  refine PT.weak (pt_cmpR (o_nn hr) (pe_var hN hy hd hcd) (pe_lst pa_nil) (nomark _)) fun σ H Q w => ?_
  obtain ⟨B, ρ, b, ρ', E, e, q⟩ := w
  obtain ⟨rfl, ds, e1, e2⟩ := dOwn_some (dT_some e)
  cases e2
  obtain ⟨a, vs, _, hz, ea, ha, s⟩ := ownAt E hi e1
  cases hz
  refine ⟨.ref a, ea, Nat.zero_le _, fun l hl => ?_⟩
  exact ⟨a, l, vs, rfl, rfl, ext_upd hl _ _ ha, upd_same, _, rfl, by rw [isEmpty_sd s]; exact q _ (E.ext (ext_upd hl)) (KS.ext (ext_upd hl))⟩

/-! ### list(range(..)) -/
def rgD (a b : Int) : List D := (List.range (b - a).toNat).map fun i => D.int (a + (i : Nat))
def rgOk (a b : Int) : Bool := decide (-(2 ^ 62) ≤ a ∧ a < 2 ^ 62 ∧ -(2 ^ 62) ≤ b ∧ b < 2 ^ 62 ∧ (b - a).toNat ≤ 2 ^ 24)
theorem rgOk_ok {a b : Int} (h : rgOk a b = true) : RgOk a b := by
  unfold rgOk at h
  rw [decide_eq_true_eq] at h
  exact h
theorem ints_sd {R : Addr → Prop} {H : Hp} {α : Type} (f : α → Int) : ∀ (l : List α), SdL G R H (l.map fun i => D.int (f i)) (l.map fun i => V.int (f i))
  | [] => rfl
  | x :: l => ⟨_, _, rfl, rfl, ints_sd f l⟩
theorem rg_sd {R : Addr → Prop} {H : Hp} (a b : Int) : SdL G R H (rgD a b) (rgV a b) := ints_sd (fun i : Nat => a + (i : Int)) _
abbrev RD := DE → Option (Int × Int × DE)
def tR (G : Gp) (own : List Nat) (f : RD) : St → Hp → (Int → Int → Hp → Prop) → Prop := fun σ H Q => ∃ B ρ i j ρ', EnvOk G B own ρ σ H ∧ f ρ = some (i, j, ρ') ∧ ∀ H', EnvOk G B own ρ' σ H' → KS own σ H own σ H' → Q i j H'
def r1 (f : TD) : RD := fun ρ => match f ρ with
  | some (.int n, ρ') => some (0, n, ρ')
  | _ => none
def r2 (f g : TD) : RD := fun ρ => match f ρ with
  | some (.int i, ρ1) => match g ρ1 with
    | some (.int j, ρ') => some (i, j, ρ')
    | _ => none
  | _ => none
theorem PRg.weak {e : Expr} {t t' : St → Hp → (Int → Int → Hp → Prop) → Prop} (h : PRg X e t) (w : ∀ σ H Q, t' σ H Q → t σ H Q) : PRg X e t' := fun pins s σ H Q I q => h pins s σ H Q I (w σ H Q q)
theorem r1_ok {f : TD} {σ : St} {H : Hp} {Q : Int → Int → Hp → Prop} (w : tR G own (r1 f) σ H Q) : tRg1 (tD G own f) σ H Q := by
  obtain ⟨B, ρ, i, j, ρ', E, e, q⟩ := w
  unfold r1 at e
  split at e
  · rename_i n ρ1 ef
    cases e
    exact ⟨B, ρ, _, _, E, ef, fun v H1 E1 k1 s1 => ⟨_, s1, q H1 E1 k1⟩⟩
  · cases e
theorem r2_ok {f g : TD} {σ : St} {H : Hp} {Q : Int → Int → Hp → Prop} (w : tR G own (r2 f g) σ H Q) : tRg2 (tD G own f) (tD G own g) σ H Q := by
  obtain ⟨B, ρ, i, j, ρ', E, e, q⟩ := w
  unfold r2 at e
  split at e
  · rename_i i ρ1 ef
    split at e
    · rename_i j ρ2 eg
      cases e
      exact ⟨B, ρ, _, _, E, ef, fun v H1 E1 k1 s1 => ⟨B, _, _, _, E1, eg, fun u H2 E2 k2 s2 => ⟨_, _, s1, s2, q H2 E2 (k1.trans k2)⟩⟩⟩
    · cases e
  · cases e
theorem rr1 {f : TD} {p : Pos} (hg : Gl X "range") (hm : X.mg "range" = none) (ha : PE X a (tD G own f)) (na : starEach [a] X.env = (false, eval a X.env) :: starEach [] X.env := by rfl) : PRg X (.Call (.Name "range" p) [a] [] pos) (tR G own (r1 f)) :=
  PRg.weak (prg_1 hg hm ha na) fun _ _ _ w => r1_ok w
theorem rr2 {f g : TD} {p : Pos} (hg : Gl X "range") (hm : X.mg "range" = none) (ha : PE X a (tD G own f)) (hb : PE X b (tD G own g)) (na : starEach [a, b] X.env = (false, eval a X.env) :: starEach [b] X.env := by rfl)
    (nb : starEach [b] X.env = (false, eval b X.env) :: starEach [] X.env := by rfl) (hp : (backTo pos (starEach [b] X.env)).any (·.1) = false := by rfl) : PRg X (.Call (.Name "range" p) [a, b] [] pos) (tR G own (r2 f g)) :=
  PRg.weak (prg_2 hg hm ha hb na nb hp) fun _ _ _ w => r2_ok w
def dLr (f : RD) : TD := fun ρ => (f ρ).bind fun p => if rgOk p.1 p.2.1 then some (.lst (rgD p.1 p.2.1), p.2.2) else none
theorem flr {f : RD} {p : Pos} (hc : X.calm = true) (hg : Gl X "list") (hm : X.mg "list" = none) (he : PRg X e (tR G own f)) (na : starEach [e] X.env = (false, eval e X.env) :: starEach [] X.env := by rfl) : PE X (.Call (.Name "list" p) [e] [] pos) (tF G own (dLr f)) := PE.weak (pe_listRg hc hg hm he na) fun σ H Q w => by
  obtain ⟨B, ρ, ds, ρ', E, e, q⟩ := w
  unfold dLr at e
  cases ef : f ρ with
  | none => rw [ef] at e; cases e
  | some p =>
    rw [ef, Option.bind_some] at e
    split at e
    · rename_i hk
      cases e
      exact ⟨B, ρ, p.1, p.2.1, p.2.2, E, ef, fun H1 E1 k1 => ⟨show RgOk _ _ from rgOk_ok hk, fun l hl => q l _ H1 _ E1 k1 hl (ext_upd hl) upd_same (rg_sd _ _)⟩⟩
    · cases e
theorem vlr {f : RD} {p : Pos} (hc : X.calm = true) (hg : Gl X "list") (hm : X.mg "list" = none) (he : PRg X e (tR G own f)) (na : starEach [e] X.env = (false, eval e X.env) :: starEach [] X.env := by rfl) : PE X (.Call (.Name "list" p) [e] [] pos) (tD G own (dLr f)) :=
  vF (flr hc hg hm he na) fun ρ d ρ' e => by
    unfold dLr at e
    cases ef : f ρ with
    | none => rw [ef] at e; cases e
    | some p =>
      rw [ef, Option.bind_some] at e
      split at e
      · cases e
        exact ⟨_, rfl⟩
      · cases e

/-! ### nodes -/
def nodeN : Nat → Str
  | 0 => "key"
  | 1 => "before"
  | 2 => "step"
  | _ => "is_taken"
def nodeF : Nat → D → Option D
  | 0, .node k _ _ _ => some k
  | 1, .node _ b _ _ => some b
  | 2, .node _ _ s _ => some s
  | 3, .node _ _ _ t => some t
  | _, _ => none
theorem node_look {R : Addr → Prop} {H : Hp} {j : Nat} {d r : D} {v : V} (h : Sd G R H d v) (e : nodeF j d = some r) :
    ∃ a dx fs u, v = .ref a ∧ H a = some (.ins G.cN dx fs) ∧ fs.lookup (nodeN j) = some u ∧ Sd G R H r u := by
  unfold nodeF at e
  split at e
  · cases e
    obtain ⟨a, dx, vk, vb, vs, vt, rfl, ha, h1, h2, h3, h4⟩ := h
    exact ⟨a, dx, _, vk, rfl, ha, rfl, h1⟩
  · cases e
    obtain ⟨a, dx, vk, vb, vs, vt, rfl, ha, h1, h2, h3, h4⟩ := h
    exact ⟨a, dx, _, vb, rfl, ha, rfl, h2⟩
  · cases e
    obtain ⟨a, dx, vk, vb, vs, vt, rfl, ha, h1, h2, h3, h4⟩ := h
    exact ⟨a, dx, _, vs, rfl, ha, rfl, h3⟩
  · cases e
    obtain ⟨a, dx, vk, vb, vs, vt, rfl, ha, h1, h2, h3, h4⟩ := h
    exact ⟨a, dx, _, vt, rfl, ha, rfl, h4⟩
  · cases e
def dFld (j : Nat) (f : TD) : TD := fun ρ => (f ρ).bind fun p => (nodeF j p.1).map fun d => (d, p.2)
theorem vfld (j : Nat) {f : TD} (c : Cls X.K G.cN) (n : NoAttr X.K G.cN (nodeN j)) (h : PE X e (tD G own f)) (hb : attributeBase e (nodeN j) X.env (eval e X.env) = eval e X.env := by rfl) : PE X (.Attribute e (nodeN j) pos) (tD G own (dFld j f)) := PE.weak (pe_fld h hb) fun σ H Q w => by
  obtain ⟨B, ρ, d, ρ', E, e, q⟩ := w
  unfold dFld at e
  cases ef : f ρ with
  | none => rw [ef] at e; cases e
  | some p =>
    rw [ef, Option.bind_some] at e
    cases en : nodeF j p.1 with
    | none => rw [en] at e; cases e
    | some d' =>
      rw [en] at e
      cases e
      refine ⟨B, ρ, p.1, p.2, E, ef, fun v H1 E1 k1 s1 => ?_⟩
      obtain ⟨a, dx, fs, u, rfl, ha, hl, su⟩ := node_look s1 en
      exact ⟨a, G.cN, dx, fs, u, rfl, ha, c, n, hl, q u H1 E1 k1 su⟩
/-- what Node's __init__ does -/
def spInit (G : Gp) : Sp := fun vs H Q _ => ∃ x dx k b s t, vs = [V.ref x, k, b, s, t] ∧ H x = some (.ins G.cN dx []) ∧ Q .non (upd H x (.ins G.cN dx [("key", k), ("before", b), ("step", s), ("is_taken", t)]))
def dNode (f : LD) : TD := fun ρ => match f ρ with
  | some ([k, b, s, t], ρ') => some (.node k b s t, ρ')
  | _ => none
theorem vnode {k : Nat} {f : Addr} {fd : FuncData} {ps : List Str} {g : LD} {x : Str} {p : Pos} (M : Mk X.K G.cN f) (F : FnOk X.prog X.w X.K X.mg X.base CX0 k f fd ps (spInit G)) (hr : Room (k + 1) X.A) (hg : Gl X x) (hm : X.mg x = some (.ref G.cN)) (hb : Binds X.K fd ps [])
    (ha : PA X (e :: es) (tA G own g)) (hdb : (x == ("__debug__" : Str)) = false := by decide) (he : starEach (e :: es) X.env = (false, eval e X.env) :: starEach es X.env := by rfl) (hpl : (backTo pos (starEach es X.env)).any (·.1) = false := by rfl) :
    PE X (.Call (.Name x p) (e :: es) [] pos) (tD G own (dNode g)) := PE.weak (pe_make M F hr hg hm hb .nil pass0 ha hdb he hpl) fun σ H Q w => by
  obtain ⟨B, ρ, d, ρ', E, e, q⟩ := w
  unfold dNode at e
  split at e
  · rename_i k b s t ρ1 eg
    cases e
    refine ⟨B, ρ, _, _, E, eg, fun vs H1 E1 k1 s1 x dx hx hdx hne => ?_⟩
    obtain ⟨vk, r1, rfl, sk, s2⟩ := s1
    obtain ⟨vb, r2, rfl, sb, s3⟩ := s2
    obtain ⟨vs, r3, rfl, ss, s4⟩ := s3
    obtain ⟨vt, rfl, st⟩ := one_of s4
    have x1 : Ext H1 (upd (upd H1 dx (.own x)) x (.ins G.cN dx [])) := (ext_upd hdx).trans (ext_upd (by rw [upd_ne (Ne.symm hne)]; exact hx))
    have x2 : Ext H1 (upd (upd (upd H1 dx (.own x)) x (.ins G.cN dx [])) x (.ins G.cN dx [("key", vk), ("before", vb), ("step", vs), ("is_taken", vt)])) := fun b u h => by
      rw [upd_upd]
      exact ((ext_upd hdx).trans (ext_upd (by rw [upd_ne (Ne.symm hne)]; exact hx))) b u h
    refine ⟨x, dx, vk, vb, vs, vt, rfl, upd_same, rfl, q _ _ (E1.ext x2) (k1.trans (KS.ext x2)) ⟨x, dx, vk, vb, vs, vt, rfl, upd_same, sk.ext x2, sb.ext x2, ss.ext x2, st.ext x2⟩⟩
  · cases e

/-! ### calls of the text's own defs -/
/-- the promise of a def that writes none of what is handed in -/
def spP (G : Gp) (n : Nat) (F : List D → Option D) : Sp := fun vs H Q _ => ∃ S ds d, SdL G S H ds vs ∧ ds.length = n ∧ F ds = some d ∧ ∀ v H', Ext H H' → Sd G (fun b => S b ∨ H b = none) H' d v → Q v H'
/-- the promise of a def that writes the list that comes first -/
def spS (G : Gp) (n : Nat) (F : List D → List D → Option (D × List D)) : Sp := fun vs H Q _ => ∃ S sp vr us l ds d l', vs = V.ref sp :: vr ∧ H sp = some (.lst us) ∧ ¬ S sp ∧ SdL G S H l us ∧ SdL G S H ds vr ∧ ds.length + 1 = n ∧ F l ds = some (d, l') ∧
  ∀ v H' us', (∀ b u, b ≠ sp → H b = some u → H' b = some u) → H' sp = some (.lst us') → SdL G (fun b => (S b ∨ H b = none) ∧ b ≠ sp) H' l' us' → Sd G (fun b => (S b ∨ H b = none) ∧ b ≠ sp) H' d v → Q v H'
section
variable {k n : Nat} {f : Addr} {fd : FuncData} {ps : List Str} {F : List D → Option D} {g : LD} {x : Str} {p : Pos} {dvs : List V} {dds : List D} {dvv : List Value}
theorem call_p {B : Bs} {ρ : DE} {σ : St} {H H1 : Hp} {vs : List V} {ds : List D} {d : D} {Q : VK} {E' : XK} (E : EnvOk G B own ρ σ H1) (k1 : KS own σ H own σ H1) (s : SdL G (RS B own σ) H1 ds vs) (hn : ds.length = n) (e : F ds = some d)
    (q : ∀ v H', EnvOk G B own ρ σ H' → KS own σ H own σ H' → Sd G (RS B own σ) H' d v → Q v H') : spP G n F vs H1 Q E' :=
  ⟨RS B own σ, ds, d, s, hn, e, fun v H' x sv => q v H' (E.ext x) (k1.trans (KS.ext x)) (sv.imp fun b r => r.elim id (E.new b))⟩
def dCal (n : Nat) (F : List D → Option D) (g : LD) : TD := fun ρ => (g ρ).bind fun p => if p.1.length = n then (F p.1).map fun d => (d, p.2) else none
theorem dCal_some {ρ ρ' : DE} {d : D} (h : dCal n F g ρ = some (d, ρ')) : ∃ ds, g ρ = some (ds, ρ') ∧ ds.length = n ∧ F ds = some d := by
  unfold dCal at h
  cases eg : g ρ with
  | none => rw [eg] at h; cases h
  | some p =>
    rw [eg, Option.bind_some] at h
    split at h
    · rename_i hl
      cases eF : F p.1 with
      | none => rw [eF] at h; cases h
      | some d' =>
        rw [eF] at h
        cases h
        exact ⟨p.1, rfl, hl, eF⟩
    · cases h
theorem vcal (Fn : FnOk X.prog X.w X.K X.mg X.base CX0 k f fd ps (spP G n F)) (hr : Room k X.A) (hg : Gl X x) (hm : X.mg x = some (.ref f)) (hk : PySem.W.keepIn X.K (.ref f) = true) (hb : Binds X.K fd ps []) (ha : PA X (e :: es) (tA G own g))
    (hdb : (x == ("__debug__" : Str)) = false := by decide) (he : starEach (e :: es) X.env = (false, eval e X.env) :: starEach es X.env := by rfl) (hpl : (backTo pos (starEach es X.env)).any (·.1) = false := by rfl) :
    PE X (.Call (.Name x p) (e :: es) [] pos) (tD G own (dCal n F g)) := PE.weak (pe_call Fn hr hg hm hk hb .nil pass0 ha hdb he hpl) fun σ H Q w => by
  obtain ⟨B, ρ, d, ρ', E, e, q⟩ := w
  obtain ⟨ds, eg, hl, eF⟩ := dCal_some e
  exact ⟨B, ρ, ds, ρ', E, eg, fun vs H1 E1 k1 s1 => call_p E1 k1 (by rw [List.append_nil]; exact s1) hl eF q⟩
theorem vcal0 (Fn : FnOk X.prog X.w X.K X.mg X.base CX0 k f fd ps (spP G 0 F)) (hr : Room k X.A) (hg : Gl X x) (hm : X.mg x = some (.ref f)) (hk : PySem.W.keepIn X.K (.ref f) = true) (hb : Binds X.K fd ps [])
    (hdb : (x == ("__debug__" : Str)) = false := by decide) : PE X (.Call (.Name x p) [] [] pos) (tD G own (dCal 0 F aNil)) := PE.weak (pe_call0 Fn hr hg hm hk hb .nil pass0 hdb) fun σ H Q w => by
  obtain ⟨B, ρ, d, ρ', E, e, q⟩ := w
  obtain ⟨ds, eg, hl, eF⟩ := dCal_some e
  cases eg
  exact (call_p (F := F) (E' := E0) (vs := []) E KS.refl (show SdL G (RS B own σ) H [] [] from rfl) rfl eF q : spP G 0 F [] H Q E0)
/-- with defaults -/
theorem vcalD (Fn : FnOk X.prog X.w X.K X.mg X.base CX0 k f fd ps (spP G n F)) (hr : Room k X.A) (hg : Gl X x) (hm : X.mg x = some (.ref f)) (hk : PySem.W.keepIn X.K (.ref f) = true) (hb : Binds X.K fd ps dvv) (hv : Vals dvs dvv) (hd : ∀ R H, SdL G R H dds dvs) (ha : PA X (e :: es) (tA G own g))
    (hdb : (x == ("__debug__" : Str)) = false := by decide) (he : starEach (e :: es) X.env = (false, eval e X.env) :: starEach es X.env := by rfl) (hpl : (backTo pos (starEach es X.env)).any (·.1) = false := by rfl) :
    PE X (.Call (.Name x p) (e :: es) [] pos) (tD G own (dCal n F fun ρ => (g ρ).map fun p => (p.1 ++ dds, p.2))) := PE.weak (pe_call Fn hr hg hm hk hb hv pass0 ha hdb he hpl) fun σ H Q w => by
  obtain ⟨B, ρ, d, ρ', E, e, q⟩ := w
  obtain ⟨ds, eg, hl, eF⟩ := dCal_some e
  cases eg' : g ρ with
  | none => rw [eg'] at eg; cases eg
  | some p =>
    rw [eg'] at eg
    cases eg
    exact ⟨B, ρ, p.1, p.2, E, eg', fun vs H1 E1 k1 s1 => call_p E1 k1 (s1.append (hd _ _)) hl eF q⟩
/-- with a keyword -/
theorem kone {nm : Option Str} {kp : Pos} {h : TD} (hh : PE X c (tD G own h)) : PK X [⟨nm, c, kp⟩] (tA G own (aCons h aNil)) := ⟨fun pos pins s σ H Q I w =>
  (pk_cons hh pk_nil).run pos pins s σ H Q I (by
    obtain ⟨B, ρ, ds, ρ', E, e, q⟩ := w
    unfold aCons aNil at e
    cases ef : h ρ with
    | none => rw [ef] at e; cases e
    | some p =>
      rw [ef] at e
      cases e
      exact ⟨B, ρ, p.1, p.2, E, ef, fun v H1 E1 k1 s1 => q _ H1 E1 k1 (SdL.one s1)⟩)⟩
def dCalK (n : Nat) (F : List D → Option D) (g h : LD) : TD := dCal n F fun ρ => (g ρ).bind fun p => (h p.2).map fun q => (p.1 ++ q.1, q.2)
theorem vcalK {ks : List Str} {kws : List Keyword} {h : LD} (Fn : FnOk X.prog X.w X.K X.mg X.base CX0 k f fd ps (spP G n F)) (hr : Room k X.A) (hg : Gl X x) (hm : X.mg x = some (.ref f)) (hk : PySem.W.keepIn X.K (.ref f) = true)
    (hb : KBinds X.K fd ps ks (fun us ws => us ++ ws) (fun vs zs => vs ++ zs)) (ha : PA X (e :: es) (tA G own g)) (hkw : PK X kws (tA G own h))
    (hall : (backToKw pos (keywordEach kws X.env)).all (·.1.isSome) = true := by rfl) (hks : (backToKw pos (keywordEach kws X.env)).filterMap (·.1) = ks := by rfl)
    (hdb : (x == ("__debug__" : Str)) = false := by decide) (he : starEach (e :: es) X.env = (false, eval e X.env) :: starEach es X.env := by rfl)
    (hpl : ((backTo pos (starEach (e :: es) X.env)).any (·.1) || (backToKw pos (keywordEach kws X.env)).any (·.1.isNone)) = false := by rfl) :
    PE X (.Call (.Name x p) (e :: es) kws pos) (tD G own (dCalK n F g h)) := PE.weak (pe_callK Fn hr hg hm hk hb pass0 ha hkw hall hks hdb he hpl) fun σ H Q w => by
  obtain ⟨B, ρ, d, ρ', E, e, q⟩ := w
  obtain ⟨ds, eg, hl, eF⟩ := dCal_some e
  cases e1 : g ρ with
  | none => rw [e1] at eg; cases eg
  | some p =>
    rw [e1, Option.bind_some] at eg
    cases e2 : h p.2 with
    | none => rw [e2] at eg; cases eg
    | some p2 =>
      rw [e2] at eg
      cases eg
      exact ⟨B, ρ, p.1, p.2, E, e1, fun vs H1 E1 k1 s1 => ⟨B, p.2, p2.1, p2.2, E1, e2, fun us H2 E2 k2 s2 => call_p E2 (k1.trans k2) ((s1.ks E1 k2).append s2) hl eF q⟩⟩
/-- the method road -/
def dMet (F : List D → Option D) (f : TD) : TD := fun ρ => match f ρ with
  | some (.node k b s t, ρ') => (F [.node k b s t]).map fun d => (d, ρ')
  | _ => none
theorem vmet {m : Str} {apos : Pos} {pl : Sem Bool} {fe : TD} (h : PE X e (tD G own fe)) (c : Cls X.K G.cN) (hm : Meth X.K G.cN m f) (Fn : FnOk X.prog X.w X.K X.mg X.base CX0 k f fd ps (spP G 1 F)) (hr : Room k X.A) (hb : Binds X.K fd ps [])
    (hlk : ∀ vk vb vs vt, ([("key", vk), ("before", vb), ("step", vs), ("is_taken", vt)] : List (Str × V)).lookup m = none)
    (ht : eval (.Call (.Attribute e m apos) [] [] pos) X.env = (do
      let ov ← eval e X.env
      standAt apos.atName
      let (f, first) ← holding [ov] (getMethod ov m pl)
      callWith pos f first (backTo pos (starEach [] X.env)) (backToKw pos (keywordEach [] X.env))) := by rfl) :
    PE X (.Call (.Attribute e m apos) [] [] pos) (tD G own (dMet F fe)) := PE.weak (pe_meth0 h c hm Fn hr hb .nil pass0 ht) fun σ H Q w => by
  obtain ⟨B, ρ, d, ρ', E, e, q⟩ := w
  unfold dMet at e
  split at e
  · rename_i k b s t ρ1 ef
    cases eF : F [.node k b s t] with
    | none => rw [eF] at e; cases e
    | some d' =>
      rw [eF] at e
      cases e
      refine ⟨B, ρ, _, _, E, ef, fun v H1 E1 k1 s1 => ?_⟩
      obtain ⟨a, dx, vk, vb, vs, vt, rfl, ha, h1, h2, h3, h4⟩ := id s1
      exact ⟨a, dx, _, rfl, ha, hlk _ _ _ _, call_p (E' := E0) E1 k1 (SdL.one s1) rfl eF q⟩
  · cases e
/-- a def that writes the list in slot i -/
def dCS (i n : Nat) (F : List D → List D → Option (D × List D)) (g : LD) : TD := fun ρ => match ρ[i]? with
  | some (some _) => (g ρ).bind fun p => match p.2[i]? with
    | some (some (.lst l)) => if p.1.length + 1 = n then (F l p.1).map fun r => (r.1, p.2.set i (some (.lst r.2))) else none
    | _ => none
  | _ => none
theorem dCS_some {i : Nat} {F : List D → List D → Option (D × List D)} {ρ ρ' : DE} {d : D} (h : dCS i n F g ρ = some (d, ρ')) :
    (∃ d0, ρ[i]? = some (some d0)) ∧ ∃ ds ρ1 l l', g ρ = some (ds, ρ1) ∧ ρ1[i]? = some (some (.lst l)) ∧ ds.length + 1 = n ∧ F l ds = some (d, l') ∧ ρ' = ρ1.set i (some (.lst l')) := by
  unfold dCS at h
  split at h
  · rename_i d0 e0
    refine ⟨⟨d0, e0⟩, ?_⟩
    cases eg : g ρ with
    | none => rw [eg] at h; cases h
    | some p =>
      rw [eg, Option.bind_some] at h
      split at h
      · rename_i l e1
        split at h
        · rename_i hl
          cases eF : F l p.1 with
          | none => rw [eF] at h; cases h
          | some r =>
            rw [eF] at h
            cases h
            exact ⟨p.1, p.2, l, r.2, rfl, e1, hl, eF, rfl⟩
        · cases h
      · cases h
  · cases h
theorem vcs (i : Nat) {F : List D → List D → Option (D × List D)} {y : Str} {yp : Pos} (Fn : FnOk X.prog X.w X.K X.mg X.base CX0 k f fd ps (spS G n F)) (hr : Room k X.A) (hg : Gl X x) (hm : X.mg x = some (.ref f)) (hk : PySem.W.keepIn X.K (.ref f) = true) (hb : Binds X.K fd ps [])
    (ha : PA X es (tA G own g)) (hi : own.contains i = true := by rfl) (hN : X.N[i]? = some y := by rfl) (hy : Vis X.env.scope y := by first | exact Or.inl rfl | exact Or.inr (Or.inl rfl) | exact Or.inr (Or.inr rfl))
    (hd : (y == ("__debug__" : Str)) = false := by decide) (hcd : (y == ("__classdict__" : Str)) = false := by decide)
    (hdb : (x == ("__debug__" : Str)) = false := by decide) (he : starEach (.Name y yp :: es) X.env = (false, eval (.Name y yp) X.env) :: starEach es X.env := by rfl) (hpl : (backTo pos (starEach es X.env)).any (·.1) = false := by rfl) :
    PE X (.Call (.Name x p) (.Name y yp :: es) [] pos) (tD G own (dCS i n F g)) := PE.weak (pe_call Fn hr hg hm hk hb .nil pass0 (pa_cons (pe_var hN hy hd hcd) ha he) hdb he hpl) fun σ H Q w => by
  obtain ⟨B, ρ, d, ρ', E, e, q⟩ := w
  obtain ⟨⟨d0, e0⟩, ds, ρ1, l, l', eg, e1, hl, eF, rfl⟩ := dCS_some e
  obtain ⟨a, _, _, _, ea, _⟩ := ownAt E hi e0
  refine ⟨.ref a, ea, B, ρ, ds, ρ1, E, eg, fun vs H1 E1 k1 s1 => ?_⟩
  obtain ⟨a', us, _, hz, ea', ha', s⟩ := ownAt E1 hi e1
  cases hz
  rw [ea] at ea'
  cases ea'
  have hmem : i ∈ own := List.contains_iff_mem.mp hi
  refine ⟨RS B own σ, a, vs, us, l, ds, d, l', by rw [List.append_nil], ha', fun r => r.2.1 ⟨i, hmem, ea⟩, s, s1, hl, eF, fun v H2 us' kp h2 sl sv => ?_⟩
  have w : ∀ b, (RS B own σ b ∨ H1 b = none) ∧ b ≠ a → RS B own σ b := fun b r => r.1.elim id (E1.new b)
  obtain ⟨E2, k2⟩ := E1.write hmem e1 ea ha' kp h2 (sl.imp w)
  exact q v H2 E2 (k1.trans k2) (sv.imp w)
end
end
end DL
end
section
set_option Elab.async false
set_option linter.all false
set_option maxRecDepth 100000
set_option autoImplicit false
/-! enumerate over a tuple, for the hand layer's walks. -/
namespace DL
open PySem PySem.Spec
open PyProof.Rows hiding St
open L2

/-- enumerate(v), any v whose walk begins with one new record -/
theorem enum_made {v : Value} {o : Obj} {C : Heap → Prop} (B : Begins v o C) :
    Meets (Builtin.«enumerate.__new__» ⟨[.type "enumerate", v], []⟩) (fun _ R s => C s.heap ∧
      R (.ok (.ret (.ref (s.heap.push o).objs.size))) { s with heap := (s.heap.push o).push { cls := .type "enumerate", data := .fields #[.none, .bool false, .ref s.heap.objs.size, rawInt 0, .none, .none] } }) :=
  .of_wp fun prog w A R s hyp => by
    obtain ⟨hp, gens, dr, tk, os⟩ := s
    obtain ⟨hC, hR⟩ := hyp
    have isSub := sub_enumerate
    have step : ∀ {A2 : Around} {E2 Q2 : Value → Shared → Prop}, Q2 (.ref hp.objs.size) ⟨hp.push o, gens, dr, tk, os⟩ → wpAny (model prog w) A2 (pyIter v) Q2 E2 ⟨hp, gens, dr, tk, os⟩ :=
      fun q => B.iter prog w _ _ ⟨hp, gens, dr, tk, os⟩ _ hC q
    wp_walk using step
    refine wpAny_stack_any fun _ => wpAny_pure ?_
    split
    · rename_i cl _ _ _ _ _
      cases (cl == Value.type "enumerate") <;> (wp_walk using step; exact ⟨_, rfl, hR⟩)
    · wp_walk using step
      exact ⟨_, rfl, hR⟩
theorem enum_call {prog : Program} {w : World} {A : Around} {E : Value → Shared → Prop} {s : Shared} {v : Value} {o : Obj} {C : Heap → Prop} {Q : Value → Shared → Prop} (B : Begins v o C) (hC : C s.heap)
    (q : ∀ h', IsEnum h' (s.heap.objs.size + 1) s.heap.objs.size 0 .none → h'.get? s.heap.objs.size = some o → (∀ b u, s.heap.get? b = some u → h'.get? b = some u) → Q (.ref (s.heap.objs.size + 1)) { s with heap := h' }) :
    wpAny (model prog w) A (call (.type "enumerate") [v]) Q E s := by
  refine callType_new F.called_enumerate (by decide) (F.typeCall_enumerate_1 _) (F.newCall_enumerate_1 _) (fun ob => F.args_object_init_2 ob _) F.entry_enumerate_new (enum_made B) ⟨hC, ?_⟩
  have sz : (s.heap.push o).objs.size = s.heap.objs.size + 1 := Heap.size_push ..
  show _ ∧ _
  rw [sz]
  have he := Heap.get?_push_size (s.heap.push o) (o := { cls := .type "enumerate", data := .fields #[.none, .bool false, .ref s.heap.objs.size, rawInt 0, .none, .none] }) rfl
  rw [sz] at he
  exact ⟨⟨_, he, rfl⟩, q _ he (Heap.get?_push_of_some _ (Heap.get?_push_size _ B.free)) fun b u x => Heap.get?_push_of_some _ (Heap.get?_push_of_some _ x)⟩

/-- the tuple at a, each item in a new pair with its place -/
def Itn (K : PySem.W.Frag) (a : Addr) : It :=
  ⟨fun i H => ∃ (xs : List V) (x : V), SqT K H a xs ∧ xs[i]? = some x, fun i H v H' => ∃ T x, v = .ref T ∧ H T = none ∧ H' = upd H T (.tup [.int (i : Nat), x]) ∧ ∀ xs, SqT K H a xs → xs[i]? = some x,
    fun i H => ∃ xs : List V, SqT K H a xs ∧ xs.length = i⟩
theorem turn_enumT {P : Program} {w : World} {K : PySem.W.Frag} {elts : List Expr} {kk : Nat} {tpos : Pos} (t e it : Addr) :
    Turn P w K (.Tuple elts kk tpos) (Itn K t) [e, it] e (fun i h => (∃ old, IsEnum h e it ((i : Nat) : Int) old) ∧ h.IsTupleIter it t i ∧ e ≠ it ∧ t ≠ it ∧ t ≠ e) where
  mem := by simp
  obj := fun i h st b hb => by
    obtain ⟨⟨old, he⟩, ⟨o, ho, hc, hd⟩, _⟩ := st
    rcases List.mem_cons.mp hb with z | z
    · rw [z]
      exact ⟨_, he, fun v q => nomatch q⟩
    · rw [List.mem_singleton.mp z]
      exact ⟨o, ho, fun v q => by rw [hd] at q; cases q⟩
  keep := fun i h h' st k => let ⟨⟨old, he⟩, hi, r⟩ := st; ⟨⟨old, k e (by simp) _ he⟩, hi.at fun o q => k it (by simp) o q, r⟩
  item := by
    intro X hP hw hK hc i pins s σ H E I hf st hg
    subst hP hw hK
    obtain ⟨⟨old, he⟩, hit, hne, hti, hte⟩ := st
    obtain ⟨xs, x, hq, hx⟩ := hg
    obtain ⟨its, rv, p, hz⟩ := I.tuple hq
    obtain ⟨u, hu, ru⟩ := rv.get hx
    have hel : e < s.heap.objs.size := Heap.lt_size he
    have hil : it < s.heap.objs.size := by
      obtain ⟨_, q, _⟩ := hit
      exact Heap.lt_size q
    have hi : i < its.toArray.size := by
      have := (List.getElem?_eq_some_iff.mp hu).1
      simpa using this
    have D := Draws.tuple (prog := X.prog) (w := X.w) (A := X.A.in1) (show X.A.in1.handled = none from I.ok.hd hc) it t hti its.toArray
    refine wpAny_pyNext_enum_itemD D he ⟨hit, show s.heap.IsTuple t its.toArray from p⟩ hi hne (by simp [hne, Ne.symm hte]) fun x2 h' tk hx2 ho st' hT hsz hk => ?_
    have ex : x2 = u := by
      have h1 : its.toArray[i]? = some u := by simpa using hu
      exact Option.some.inj (hx2.symm.trans h1)
    subst ex
    refine ⟨_, rfl, wpAny_letOwnedTupleGo_enum (s := { s with heap := h', toks := tk + 1 }) ho fun h'' he' sb => ?_⟩
    have hT2 : h''.get? s.heap.objs.size = some { cls := .type "tuple", data := .seq #[.int i tk, x2] } := (sb.2 _ (Nat.ne_of_gt hel)).trans hT
    have fresh : ObjOk X.prog X.w (upd H s.heap.objs.size (.tup [.int (i : Nat), x])) h'' s.heap.objs.size (.tup [.int (i : Nat), x]) :=
      ⟨by show 2 ≤ sizeLine; decide, [.int i tk, x2], .cons ⟨_, rfl⟩ (.cons ru .nil), ⟨_, hT2, rfl, _, rfl⟩⟩
    have I1 : L2.Inv X pins σ (upd H s.heap.objs.size (.tup [.int (i : Nat), x])) { s with heap := h'', toks := tk + 1 } :=
      I.turnedNew (ch := [e, it]) (fun b ob hb q => (sb.2 b (fun z => hb (by simp [z]))).trans (hk b ob (fun z => hb (by simp [z])) (fun z => hb (by simp [z])) q)) hf (Nat.le_refl _) fresh
    refine ⟨.ref s.heap.objs.size, _, I1, rfl, ⟨_, x, rfl, I.hok.fresh (Nat.le_refl _), rfl, fun ys hy => by rw [I.tuple_inj hy hq]; exact hx⟩, ⟨⟨x2, ?_⟩, st'.1.at fun o q => (sb.2 it (Ne.symm hne)).trans q, hne, hti, hte⟩, fun b hb => ?_⟩
    · have e1 : ((i + 1 : Nat) : Int) = (i : Int) + 1 := by omega
      rw [e1]
      exact he'
    · have hb' : b < s.heap.objs.size := by
        rcases List.mem_cons.mp hb with z | z
        · rw [z]
          exact hel
        · rw [List.mem_singleton.mp z]
          exact hil
      rw [upd_ne (Nat.ne_of_lt hb')]
      exact (hf b hb).1
  done := by
    intro X hP hw hK hc i pins s σ H E I hf st hg
    subst hP hw hK
    obtain ⟨⟨old, he⟩, hit, hne, hti, hte⟩ := st
    obtain ⟨xs, hq, hx⟩ := hg
    obtain ⟨its, rv, p, hz⟩ := I.tuple hq
    obtain ⟨f0, f1, f2, f3, f4, f5⟩ := hf it (by simp)
    have hl := rv.length
    have D := Draws.tuple (prog := X.prog) (w := X.w) (A := X.A.in1) (show X.A.in1.handled = none from I.ok.hd hc) it t hti its.toArray
    have hn : its.toArray.size = i := by
      rw [List.size_toArray]
      omega
    refine wpAny_pyNext_enum_endD D he ⟨by rw [hn]; exact hit, show s.heap.IsTuple t its.toArray from p⟩ fun h' eb => ?_
    exact ⟨rfl, I.turned (t' := s.toks) (fun b o hb q => eb b o hb q) f0 f1 f3 f4 f5⟩
  self := fun A i s Q E st h => let ⟨⟨_, he⟩, _⟩ := st; wpAny_pyIter_enum he h
def iEnT (K : PySem.W.Frag) (ta : TA) : TI := fun σ H R => ta σ H fun vs H1 => ∃ a xs, vs = [.ref a] ∧ SqT K H1 a xs ∧ R (Itn K a) H1
theorem pi_enumT {X : Cx} {e : Expr} {ta : TA} {p pos tpos : Pos} {elts : List Expr} {kk : Nat} (hg : Gl X "enumerate") (hm : X.mg "enumerate" = none) (ha : PA X [e] ta) (hs : starEach [e] X.env = [(false, eval e X.env)] := by rfl) :
    PI X (.Tuple elts kk tpos) (.Call (.Name "enumerate" p) [e] [] pos) (iEnT X.K ta) := by
  refine ⟨fun pins s σ H R I h => ?_⟩
  refine Call_ (ld_blt I hg hm boot_enumerate (PyProof.Rows.callWith_type1 (thn (ha.run pos pins s σ H _ I h) fun us s1 ⟨vs, H1, I1, r1, q1⟩ => ?_) hs rfl))
  obtain ⟨a, xs, ex, hq, q⟩ := q1
  subst ex
  cases r1 with
  | cons r rr =>
    cases rr
    cases r
    obtain ⟨its, rv, pt, hz⟩ := I1.tuple hq
    refine enum_call (begins_tuple a its.toArray) (show s1.heap.IsTuple a its.toArray from pt) fun h' he hi hk => wpAny_pyIter_enum he ?_
    have I2 : L2.Inv X pins σ H1 { s1 with heap := h' } := I1.kept (t' := s1.toks) hk
    have al : a < s1.heap.objs.size := by
      obtain ⟨ob, ho, _⟩ := pt
      exact Heap.lt_size ho
    refine ⟨s1.heap.objs.size + 1, [s1.heap.objs.size + 1, s1.heap.objs.size], _, _, H1, rfl, I2, turn_enumT a (s1.heap.objs.size + 1) s1.heap.objs.size, ⟨⟨.none, he⟩, ⟨_, hi, rfl, rfl⟩, Nat.succ_ne_self _, Nat.ne_of_lt al, Nat.ne_of_lt (Nat.lt_succ_of_lt al)⟩, fun b hb => ?_, q⟩
    have hle : s1.heap.objs.size ≤ b := by
      rcases List.mem_cons.mp hb with z | z
      · rw [z]
        exact Nat.le_succ _
      · rw [List.mem_singleton.mp z]
        exact Nat.le_refl _
    exact I1.fpOk hle (I1.hok.fresh hle)
end DL
end
section
set_option Elab.async false
set_option linter.all false
set_option maxRecDepth 100000
set_option autoImplicit false
/-! The data layer: targets, what a loop walks, list comprehensions. -/
namespace DL
open PySem PySem.Spec
open PyProof.Rows hiding St
open L2

section
variable {X : Cx} {G : Gp} {own : List Nat} {pos : Pos} {e tg : Expr} {es : List Expr}
/-! ### targets -/
def gN (i : Nat) : GD := fun d ρ => if i < ρ.length then some (ρ.set i (some d)) else none
theorem tn (i : Nat) {x : Str} (hN : X.N.Nodup) (ho : own.contains i = false := by rfl) (hi : X.N[i]? = some x := by rfl) (hx : Loc X.env.scope x := by first | exact Or.inl rfl | exact Or.inr rfl)
    (hf : X.fn x = true ∨ X.env.scope.names.lookup x = some .local := by first | exact .inl rfl | exact .inr rfl) : PG X (.Name x pos) (gD G own [i] (gN i)) := PG.weak (pg_name hN hi hx hf) fun v σ H Q w => by
  obtain ⟨B, ρ, d, ρ', E, s, e, q⟩ := w
  unfold gN at e
  split at e
  · rename_i hl
    cases e
    have hm : i ∉ own := fun z => by rw [List.contains_iff_mem.mpr z] at ho; cases ho
    exact q _ H (E.set hm hl s) (KS.same fun b => isOwn_set hm b) ⟨fun j hj => List.getElem?_set_ne fun z => hj (by simp [z]), List.length_set⟩
  · cases e
abbrev GL := List D → DE → Option DE
def gsD (G : Gp) (own ts : List Nat) (g : GL) : TGs := fun vs σ H Q => ∃ B ρ ds ρ', EnvOk G B own ρ σ H ∧ SdL G (RS B own σ) H ds vs ∧ g ds ρ = some ρ' ∧
  ∀ σ' H', EnvOk G B own ρ' σ' H' → KS own σ H own σ' H' → (∀ j, j ∉ ts → σ'[j]? = σ[j]?) ∧ σ'.length = σ.length → Q σ' H'
theorem PGs.weak {e : List Expr} {t t' : TGs} (h : PGs X e t) (w : ∀ v σ H Q, t' v σ H Q → t v σ H Q) : PGs X e t' := ⟨fun pins s σ H v u Q I r q => h.run pins s σ H v u Q I r (w v σ H Q q)⟩
def glN : GL := fun ds ρ => match ds with
  | [] => some ρ
  | _ => none
def glC (g : GD) (h : GL) : GL := fun ds ρ => match ds with
  | d :: r => (g d ρ).bind (h r)
  | [] => none
theorem tsn : PGs X [] (gsD G own [] glN) := PGs.weak pgs_nil fun vs σ H Q w => by
  obtain ⟨B, ρ, ds, ρ', E, s, e, q⟩ := w
  unfold glN at e
  split at e
  · cases e
    exact ⟨s, q σ H E KS.refl ⟨fun _ _ => rfl, rfl⟩⟩
  · cases e
theorem tsc {t1 t2 : List Nat} {g : GD} {h : GL} (hg : PG X e (gD G own t1 g)) (hh : PGs X es (gsD G own t2 h)) (hs : (assignEach (e :: es) X.env).map (·.2) = assign e X.env :: (assignEach es X.env).map (·.2) := by rfl) : PGs X (e :: es) (gsD G own (t1 ++ t2) (glC g h)) := PGs.weak (pgs_cons hg hh hs) fun vs σ H Q w => by
  obtain ⟨B, ρ, ds, ρ', E, s, e, q⟩ := w
  unfold glC at e
  split at e
  · rename_i d r
    obtain ⟨v, vr, rfl, s1, s2⟩ := s
    cases eg : g d ρ with
    | none => rw [eg] at e; cases e
    | some ρ1 =>
      rw [eg, Option.bind_some] at e
      refine ⟨v, vr, rfl, B, ρ, d, ρ1, E, s1, eg, fun σ1 H1 E1 k1 j1 => ⟨B, ρ1, r, ρ', E1, s2.ks E k1, e, fun σ2 H2 E2 k2 j2 => ?_⟩⟩
      exact q σ2 H2 E2 (k1.trans k2) ⟨fun j hj => (j2.1 j fun z => hj (List.mem_append_right _ z)).trans (j1.1 j fun z => hj (List.mem_append_left _ z)), j2.2.trans j1.2⟩
  · cases e
def gT (n : Nat) (h : GL) : GD := fun d ρ => match d with
  | .tup ds => if ds.length = n then h ds ρ else none
  | _ => none
theorem tt {k n : Nat} {ts : List Nat} {h : GL} (hc : X.calm = true) (hh : PGs X es (gsD G own ts h)) (hn : (assignEach es X.env).length = n := by rfl) (hst : (assignEach es X.env).findIdx? (·.1) = none := by rfl) : PG X (.Tuple es k pos) (gD G own ts (gT n h)) := PG.weak (pg_tup hc hh hn hst) fun v σ H Q w => by
  obtain ⟨B, ρ, d, ρ', E, s, e, q⟩ := w
  unfold gT at e
  split at e
  · split at e
    · rename_i ds hl
      obtain ⟨a, vs, rfl, ha, s1⟩ := s
      exact ⟨a, vs, rfl, SqT.of ha, by rw [s1.length, hl], B, ρ, ds, ρ', E, s1, e, q⟩
    · cases e
  · cases e

/-! ### what is walked -/
/-- the iterator gives out ds, whatever the loop does meanwhile; none of them reaches what is hidden since -/
def Yd (G : Gp) (B : Bs) (own : List Nat) (J : It) (ds : List D) (σ0 : St) (H0 : Hp) : Prop := ∀ (hid' : Addr → Prop) (i : Nat) (σ : St) (H : Hp), (∀ b, hid' b → B.hid b ∨ H0 b = none) → (∀ p, H p = none → RS { B with hid := hid' } own σ p) → KS own σ0 H0 own σ H →
  (i = ds.length → J.stop i H) ∧ ∀ d, ds[i]? = some d → J.go i H ∧ ∀ x H', J.yld i H x H' → Ext H H' ∧ Sd G (RS { B with hid := hid' } own σ) H' d x
def iD (G : Gp) (own : List Nat) (f : LD) : TI := fun σ H R => ∃ B ρ ds ρ', EnvOk G B own ρ σ H ∧ f ρ = some (ds, ρ') ∧ ∀ J H', EnvOk G B own ρ' σ H' → KS own σ H own σ H' → Yd G B own J ds σ H' → R J H'
theorem Yd.mv {B : Bs} {ρ : DE} {σ0 σ : St} {H0 H : Hp} {hid' : Addr → Prop} (E : EnvOk G B own ρ σ0 H0) (hh : ∀ b, hid' b → B.hid b ∨ H0 b = none) (k : KS own σ0 H0 own σ H) : Mv (RS B own σ0) (RS { B with hid := hid' } own σ) H0 H := fun b u h => by
  refine ⟨fun z => ((E.mv k) b u h).1 z, fun z r => ?_⟩
  obtain ⟨h', r'⟩ := ((E.mv k) b u h).2 z r
  refine ⟨h', r'.1, r'.2.1, fun y => ?_⟩
  rcases hh b y with z2 | z2
  · exact r.2.2 z2
  · rw [z2] at h
    cases h
theorem own_keep {B : Bs} {ρ : DE} {σ0 σ : St} {H0 H : Hp} {a : Addr} {u : HO} (E : EnvOk G B own ρ σ0 H0) (k : KS own σ0 H0 own σ H) (ha : H0 a = some u) (h : mutK u = false ∨ RS B own σ0 a) : H a = some u := by
  refine (k a u ha fun z => ?_).1
  rcases h with h | h
  · obtain ⟨vs, q⟩ := E.ownL z
    rw [ha] at q
    cases q
    cases h
  · exact h.2.1 z
theorem yd_list {B : Bs} {ρ : DE} {σ : St} {H : Hp} {K : PySem.W.Frag} {a : Addr} {vs : List V} {ds : List D} (E : EnvOk G B own ρ σ H) (ha : H a = some (.lst vs)) (hr : RS B own σ a) (s : SdL G (RS B own σ) H ds vs) : Yd G B own (Itl K a) ds σ H := fun hid' i σ' H' hh hn k => by
  have ha' := own_keep E k ha (.inr hr)
  have s' := SdL.mv (Yd.mv E hh k) ds vs s
  refine ⟨fun z => ⟨vs, SqL.of ha', by rw [s.length, z]; exact Nat.le_refl _⟩, fun d hd => ?_⟩
  obtain ⟨v, e, sv⟩ := s'.get hd
  refine ⟨⟨vs, v, SqL.of ha', e⟩, fun x H2 y => ?_⟩
  obtain ⟨rfl, y⟩ := y
  have := y vs (SqL.of ha')
  rw [e] at this
  cases this
  exact ⟨Same.refl _, sv⟩
theorem yd_tup {B : Bs} {ρ : DE} {σ : St} {H : Hp} {K : PySem.W.Frag} {a : Addr} {vs : List V} {ds : List D} (E : EnvOk G B own ρ σ H) (ha : H a = some (.tup vs)) (s : SdL G (RS B own σ) H ds vs) : Yd G B own (Itt K a) ds σ H := fun hid' i σ' H' hh hn k => by
  have ha' := own_keep E k ha (.inl rfl)
  have s' := SdL.mv (Yd.mv E hh k) ds vs s
  refine ⟨fun z => ⟨vs, SqT.of ha', by rw [s.length, z]; exact Nat.le_refl _⟩, fun d hd => ?_⟩
  obtain ⟨v, e, sv⟩ := s'.get hd
  refine ⟨⟨vs, v, SqT.of ha', e⟩, fun x H2 y => ?_⟩
  obtain ⟨rfl, y⟩ := y
  have := y vs (SqT.of ha')
  rw [e] at this
  cases this
  exact ⟨Same.refl _, sv⟩
def lL (f : TD) : LD := fun ρ => match f ρ with
  | some (.lst ds, ρ') => some (ds, ρ')
  | _ => none
def lT (f : TD) : LD := fun ρ => match f ρ with
  | some (.tup ds, ρ') => some (ds, ρ')
  | _ => none
theorem il {f : TD} (h : PE X e (tD G own f)) : PI X tg e (iD G own (lL f)) := PI.weak (pi_list h) fun σ H R w => by
  obtain ⟨B, ρ, ds, ρ', E, e, q⟩ := w
  unfold lL at e
  split at e
  · rename_i es ρ1 ef
    cases e
    refine ⟨B, ρ, _, _, E, ef, fun v H1 E1 k1 s1 => ?_⟩
    obtain ⟨a, vs, rfl, ha, hr, s⟩ := s1
    exact ⟨a, rfl, ⟨vs, SqL.of ha⟩, q _ H1 E1 k1 (yd_list E1 ha hr s)⟩
  · cases e
theorem it {f : TD} (h : PE X e (tD G own f)) : PI X tg e (iD G own (lT f)) := PI.weak (pi_tup h) fun σ H R w => by
  obtain ⟨B, ρ, ds, ρ', E, e, q⟩ := w
  unfold lT at e
  split at e
  · rename_i es ρ1 ef
    cases e
    refine ⟨B, ρ, _, _, E, ef, fun v H1 E1 k1 s1 => ?_⟩
    obtain ⟨a, vs, rfl, ha, s⟩ := s1
    exact ⟨a, rfl, ⟨vs, SqT.of ha⟩, q _ H1 E1 k1 (yd_tup E1 ha s)⟩
  · cases e
/-- range(n) -/
def lR (f : TD) : LD := fun ρ => match f ρ with
  | some (.int n, ρ') => if -(2 ^ 62) ≤ n ∧ n < 2 ^ 62 then some ((List.range n.toNat).map fun i => D.int (i : Nat), ρ') else none
  | _ => none
theorem ir {f : TD} {p : Pos} (hg : Gl X "range") (hm : X.mg "range" = none) (h : PE X e (tD G own f)) (hs : starEach [e] X.env = [(false, eval e X.env)] := by rfl) (hs2 : starEach [e] X.env = (false, eval e X.env) :: starEach [] X.env := by rfl) : PI X tg (.Call (.Name "range" p) [e] [] pos) (iD G own (lR f)) :=
  PI.weak (pi_range1 hg hm (pa_cons h pa_nil hs2) hs) fun σ H R w => by
  obtain ⟨B, ρ, ds, ρ', E, e, q⟩ := w
  unfold lR at e
  split at e
  · rename_i n ρ1 ef
    split at e
    · rename_i hn
      cases e
      refine ⟨B, ρ, _, _, E, ef, fun v H1 E1 k1 s1 => ⟨n, congrArg (fun z => [z]) s1, hn.1, hn.2, q _ H1 E1 k1 fun hid' i σ' H' hh hnew k => ⟨fun z => ?_, fun d hd => ?_⟩⟩⟩
      · show n.toNat ≤ i
        rw [z, List.length_map, List.length_range]
        exact Nat.le_refl _
      · rw [List.getElem?_map] at hd
        cases hj : (List.range n.toNat)[i]? with
        | none => rw [hj] at hd; cases hd
        | some j =>
          rw [hj] at hd
          cases hd
          obtain ⟨h1, h2⟩ := List.getElem?_eq_some_iff.mp hj
          rw [List.getElem_range] at h2
          subst h2
          rw [List.length_range] at h1
          refine ⟨h1, fun x H2 y => ?_⟩
          obtain ⟨rfl, rfl⟩ := y
          exact ⟨Same.refl _, by rw [Int.zero_add]; rfl⟩
    · cases e
  · cases e
/-- zip of two lists, of two tuples -/
def zipD (as bs : List D) : List D := (as.zip bs).map fun p => D.tup [p.1, p.2]
def lZ (f : LD) : LD := fun ρ => match f ρ with
  | some ([.lst as, .lst bs], ρ') => some (zipD as bs, ρ')
  | some ([.tup as, .tup bs], ρ') => some (zipD as bs, ρ')
  | _ => none
theorem zip_at {as bs : List D} {i : Nat} {d : D} (h : (zipD as bs)[i]? = some d) : ∃ x y, as[i]? = some x ∧ bs[i]? = some y ∧ d = .tup [x, y] := by
  unfold zipD at h
  rw [List.getElem?_map] at h
  cases hj : (as.zip bs)[i]? with
  | none => rw [hj] at h; cases h
  | some p =>
    rw [hj] at h
    cases h
    rw [List.getElem?_zip_eq_some] at hj
    exact ⟨p.1, p.2, hj.1, hj.2, rfl⟩
theorem iz {a b : Expr} {elts : List Expr} {kk : Nat} {p tpos : Pos} {f : LD} (hg : Gl X "zip") (hm : X.mg "zip" = none) (h : PA X [a, b] (tA G own f)) (hs : starEach [a, b] X.env = (false, eval a X.env) :: starEach [b] X.env := by rfl) (hpl : (backTo pos (starEach [b] X.env)).any (·.1) = false := by rfl) :
    PI X (.Tuple elts kk tpos) (.Call (.Name "zip" p) [a, b] [] pos) (iD G own (lZ f)) := PI.weak (RZ.pi_zipA hg hm h hs hpl) fun σ H R w => by
  obtain ⟨B, ρ, ds, ρ', E, e, q⟩ := w
  unfold lZ at e
  split at e
  · rename_i as bs ρ1 ef
    cases e
    refine ⟨B, ρ, _, _, E, ef, fun vs H1 E1 k1 s1 => ?_⟩
    obtain ⟨v, u, rfl, sv, su⟩ := two_of s1
    obtain ⟨p1, xs, rfl, ha, hra, sa⟩ := sv
    obtain ⟨p2, ys, rfl, hb, hrb, sb⟩ := su
    refine ⟨p1, p2, xs, ys, rfl, .inl ⟨SqL.of ha, SqL.of hb, q _ H1 E1 k1 fun hid' i σ' H' hh hn k => ?_⟩⟩
    have ha' := own_keep E1 k ha (.inr hra)
    have hb' := own_keep E1 k hb (.inr hrb)
    have sa' := SdL.mv (Yd.mv E1 hh k) as xs sa
    have sb' := SdL.mv (Yd.mv E1 hh k) bs ys sb
    have la := sa.length
    have lb := sb.length
    refine ⟨fun z => ⟨xs, ys, SqL.of ha', SqL.of hb', ?_⟩, fun d hd => ?_⟩
    · rw [z, zipD, List.length_map, List.length_zip]
      omega
    · obtain ⟨x, y, h1, h2, rfl⟩ := zip_at hd
      obtain ⟨vx, e1, s1⟩ := sa'.get h1
      obtain ⟨vy, e2, s2⟩ := sb'.get h2
      refine ⟨⟨xs, ys, vx, vy, SqL.of ha', SqL.of hb', e1, e2⟩, fun w H2 yy => ?_⟩
      obtain ⟨T, x', y', rfl, hT, rfl, f1, f2⟩ := yy
      have q1 := f1 xs (SqL.of ha')
      have q2 := f2 ys (SqL.of hb')
      rw [e1] at q1
      rw [e2] at q2
      cases q1
      cases q2
      exact ⟨ext_upd hT, T, _, rfl, upd_same, vx, _, rfl, s1.ext (ext_upd hT), vy, _, rfl, s2.ext (ext_upd hT), rfl⟩
  · rename_i as bs ρ1 ef
    cases e
    refine ⟨B, ρ, _, _, E, ef, fun vs H1 E1 k1 s1 => ?_⟩
    obtain ⟨v, u, rfl, sv, su⟩ := two_of s1
    obtain ⟨p1, xs, rfl, ha, sa⟩ := sv
    obtain ⟨p2, ys, rfl, hb, sb⟩ := su
    refine ⟨p1, p2, xs, ys, rfl, .inr ⟨SqT.of ha, SqT.of hb, q _ H1 E1 k1 fun hid' i σ' H' hh hn k => ?_⟩⟩
    have ha' := own_keep E1 k ha (.inl rfl)
    have hb' := own_keep E1 k hb (.inl rfl)
    have sa' := SdL.mv (Yd.mv E1 hh k) as xs sa
    have sb' := SdL.mv (Yd.mv E1 hh k) bs ys sb
    have la := sa.length
    have lb := sb.length
    refine ⟨fun z => ⟨xs, ys, SqT.of ha', SqT.of hb', ?_⟩, fun d hd => ?_⟩
    · rw [z, zipD, List.length_map, List.length_zip]
      omega
    · obtain ⟨x, y, h1, h2, rfl⟩ := zip_at hd
      obtain ⟨vx, e1, s1⟩ := sa'.get h1
      obtain ⟨vy, e2, s2⟩ := sb'.get h2
      refine ⟨⟨xs, ys, vx, vy, SqT.of ha', SqT.of hb', e1, e2⟩, fun w H2 yy => ?_⟩
      obtain ⟨T, x', y', rfl, hT, rfl, f1, f2⟩ := yy
      have q1 := f1 xs (SqT.of ha')
      have q2 := f2 ys (SqT.of hb')
      rw [e1] at q1
      rw [e2] at q2
      cases q1
      cases q2
      exact ⟨ext_upd hT, T, _, rfl, upd_same, vx, _, rfl, s1.ext (ext_upd hT), vy, _, rfl, s2.ext (ext_upd hT), rfl⟩
  · cases e
/-- enumerate of a list, of a tuple -/
def enumD (ds : List D) : List D := ds.zipIdx.map fun p => D.tup [.int (p.2 : Nat), p.1]
theorem enum_at {ds : List D} {i : Nat} {d : D} (h : (enumD ds)[i]? = some d) : ∃ x, ds[i]? = some x ∧ d = .tup [.int (i : Nat), x] := by
  unfold enumD at h
  rw [List.getElem?_map, List.getElem?_zipIdx] at h
  cases hj : ds[i]? with
  | none => rw [hj] at h; cases h
  | some x =>
    rw [hj] at h
    cases h
    exact ⟨x, rfl, by simp⟩
theorem enum_len (ds : List D) : (enumD ds).length = ds.length := by
  unfold enumD
  rw [List.length_map, List.length_zipIdx]
def lEl (f : TD) : LD := fun ρ => match f ρ with
  | some (.lst ds, ρ') => some (enumD ds, ρ')
  | _ => none
def lEt (f : TD) : LD := fun ρ => match f ρ with
  | some (.tup ds, ρ') => some (enumD ds, ρ')
  | _ => none
theorem iel {elts : List Expr} {kk : Nat} {p tpos : Pos} {f : TD} (hg : Gl X "enumerate") (hm : X.mg "enumerate" = none) (h : PE X e (tD G own f)) (hs : starEach [e] X.env = [(false, eval e X.env)] := by rfl) (hs2 : starEach [e] X.env = (false, eval e X.env) :: starEach [] X.env := by rfl) :
    PI X (.Tuple elts kk tpos) (.Call (.Name "enumerate" p) [e] [] pos) (iD G own (lEl f)) := PI.weak (pi_enum hg hm (pa_cons h pa_nil hs2) hs) fun σ H R w => by
  obtain ⟨B, ρ, ds, ρ', E, e, q⟩ := w
  unfold lEl at e
  split at e
  · rename_i as ρ1 ef
    cases e
    refine ⟨B, ρ, _, _, E, ef, fun v H1 E1 k1 s1 => ?_⟩
    obtain ⟨a, vs, rfl, ha, hr, s⟩ := s1
    refine ⟨a, vs, rfl, SqL.of ha, q _ H1 E1 k1 fun hid' i σ' H' hh hn k => ?_⟩
    have ha' := own_keep E1 k ha (.inr hr)
    have s' := SdL.mv (Yd.mv E1 hh k) as vs s
    refine ⟨fun z => ⟨vs, SqL.of ha', by rw [s.length, z, enum_len]; exact Nat.le_refl _⟩, fun d hd => ?_⟩
    obtain ⟨x, h1, rfl⟩ := enum_at hd
    obtain ⟨vx, e1, s1⟩ := s'.get h1
    refine ⟨⟨vs, vx, SqL.of ha', e1⟩, fun w H2 yy => ?_⟩
    obtain ⟨T, x', rfl, hT, rfl, f1⟩ := yy
    have q1 := f1 vs (SqL.of ha')
    rw [e1] at q1
    cases q1
    exact ⟨ext_upd hT, T, _, rfl, upd_same, _, _, rfl, rfl, vx, _, rfl, s1.ext (ext_upd hT), rfl⟩
  · cases e
theorem iet {elts : List Expr} {kk : Nat} {p tpos : Pos} {f : TD} (hg : Gl X "enumerate") (hm : X.mg "enumerate" = none) (h : PE X e (tD G own f)) (hs : starEach [e] X.env = [(false, eval e X.env)] := by rfl) (hs2 : starEach [e] X.env = (false, eval e X.env) :: starEach [] X.env := by rfl) :
    PI X (.Tuple elts kk tpos) (.Call (.Name "enumerate" p) [e] [] pos) (iD G own (lEt f)) := PI.weak (pi_enumT hg hm (pa_cons h pa_nil hs2) hs) fun σ H R w => by
  obtain ⟨B, ρ, ds, ρ', E, e, q⟩ := w
  unfold lEt at e
  split at e
  · rename_i as ρ1 ef
    cases e
    refine ⟨B, ρ, _, _, E, ef, fun v H1 E1 k1 s1 => ?_⟩
    obtain ⟨a, vs, rfl, ha, s⟩ := s1
    refine ⟨a, vs, rfl, SqT.of ha, q _ H1 E1 k1 fun hid' i σ' H' hh hn k => ?_⟩
    have ha' := own_keep E1 k ha (.inl rfl)
    have s' := SdL.mv (Yd.mv E1 hh k) as vs s
    refine ⟨fun z => ⟨vs, SqT.of ha', by rw [s.length, z, enum_len]⟩, fun d hd => ?_⟩
    obtain ⟨x, h1, rfl⟩ := enum_at hd
    obtain ⟨vx, e1, s1⟩ := s'.get h1
    refine ⟨⟨vs, vx, SqT.of ha', e1⟩, fun w H2 yy => ?_⟩
    obtain ⟨T, x', rfl, hT, rfl, f1⟩ := yy
    have q1 := f1 vs (SqT.of ha')
    rw [e1] at q1
    cases q1
    exact ⟨ext_upd hT, T, _, rfl, upd_same, _, _, rfl, rfl, vx, _, rfl, s1.ext (ext_upd hT), rfl⟩
  · cases e
end
end DL
end
section
set_option Elab.async false
set_option linter.all false
set_option maxRecDepth 100000
set_option autoImplicit false
/-! The data layer: list comprehensions. -/
namespace DL
open PySem PySem.Spec
open PyProof.Rows hiding St
open L2

section
variable {G : Gp} {B : Bs} {own o2 : List Nat} {ρ ρ0 ρ1 : DE} {σ σ' : St} {H H' H1 : Hp}
def wipeD (ρ : DE) : List Nat → DE
  | [] => ρ
  | v :: vs => (wipeD ρ vs).set v none
theorem EnvOk.unset {i : Nat} (E : EnvOk G B own ρ σ H) (hi : i ∉ own) (hl : i < ρ.length) : EnvOk G B own (ρ.set i none) (σ.set i none) H := by
  have hR : RS B own (σ.set i none) = RS B own σ := rs_congr fun b => isOwn_set hi b
  have hlσ : i < σ.length := by rw [← E.len]; exact hl
  have ne : ∀ j, j ∈ own → i ≠ j := fun j hj z => hi (by rw [z]; exact hj)
  refine ⟨by rw [List.length_set, List.length_set, E.len], E.same, fun j x h1 h2 => ?_, fun j x h1 h2 => ?_, fun j h1 => ?_, fun j k a hj hk h1 h2 => ?_, fun b hb => ?_, E.hide⟩
  · rw [hR]
    by_cases hj : i = j
    · subst hj
      rw [List.getElem?_set_self hl] at h1
      cases h1
    · rw [List.getElem?_set_ne hj] at h1 ⊢
      exact E.rep j x h1 h2
  · rw [hR]
    rw [List.getElem?_set_ne (ne j h2)] at h1 ⊢
    exact E.wr j x h1 h2
  · by_cases hj : i = j
    · subst hj
      exact List.getElem?_set_self hlσ
    · rw [List.getElem?_set_ne hj] at h1 ⊢
      exact E.non j h1
  · rw [List.getElem?_set_ne (ne j hj)] at h1
    rw [List.getElem?_set_ne (ne k hk)] at h2
    exact E.inj j k a hj hk h1 h2
  · obtain ⟨q0, q1⟩ := E.frs b hb
    exact ⟨q0, by rw [List.getElem?_set_ne (ne 0 q0)]; exact q1⟩
theorem wipeD_length (ρ : DE) : ∀ vs : List Nat, (wipeD ρ vs).length = ρ.length
  | [] => rfl
  | v :: vs => by
    unfold wipeD
    rw [List.length_set, wipeD_length ρ vs]
theorem EnvOk.wipe (E : EnvOk G B own ρ σ H) : ∀ vs : List Nat, (∀ v ∈ vs, v ∉ own) → (∀ v ∈ vs, v < ρ.length) → EnvOk G B own (wipeD ρ vs) (L2.wipe σ vs) H
  | [], _, _ => E
  | v :: vs, h1, h2 => (EnvOk.wipe E vs (fun x hx => h1 x (List.mem_cons_of_mem _ hx)) fun x hx => h2 x (List.mem_cons_of_mem _ hx)).unset (h1 v List.mem_cons_self) (by rw [wipeD_length]; exact h2 v List.mem_cons_self)
theorem isOwn_wipe : ∀ (vs : List Nat), (∀ v ∈ vs, v ∉ own) → ∀ b, IsOwn own (L2.wipe σ vs) b ↔ IsOwn own σ b
  | [], _, _ => Iff.rfl
  | v :: vs, h, b => (isOwn_set (h v List.mem_cons_self) b).trans (isOwn_wipe vs (fun x hx => h x (List.mem_cons_of_mem _ hx)) b)
theorem wipe_at {i : Nat} : ∀ {vs : List Nat}, i ∈ vs → i < σ.length → (L2.wipe σ vs)[i]? = some none
  | v :: vs, h, hl => by
    unfold L2.wipe
    by_cases e : v = i
    · subst e
      exact List.getElem?_set_self (by rw [wipe_length]; exact hl)
    · rw [List.getElem?_set_ne e]
      exact wipe_at ((List.mem_cons.mp h).elim (fun z => absurd z.symm e) id) hl
theorem wipe_off {i : Nat} : ∀ {vs : List Nat}, i ∉ vs → (L2.wipe σ vs)[i]? = σ[i]?
  | [], _ => rfl
  | v :: vs, h => by
    unfold L2.wipe
    rw [List.getElem?_set_ne fun z => h (by rw [z]; exact List.mem_cons_self)]
    exact wipe_off fun z => h (List.mem_cons_of_mem _ z)
theorem wipe_back {vs ts : List Nat} (hs : ∀ t ∈ ts, t ∈ vs) (h : ∀ j, j ∉ ts → σ'[j]? = (L2.wipe σ vs)[j]?) (hl : σ'.length = (L2.wipe σ vs).length) : L2.wipe σ' vs = L2.wipe σ vs := by
  apply List.ext_getElem?
  intro j
  rw [wipe_length] at hl
  by_cases hj : j ∈ vs
  · by_cases hlt : j < σ.length
    · rw [wipe_at hj (by rw [hl]; exact hlt), wipe_at hj hlt]
    · rw [List.getElem?_eq_none (by rw [wipe_length, hl]; omega), List.getElem?_eq_none (by rw [wipe_length]; omega)]
  · rw [wipe_off hj, h j fun z => hj (hs j z)]
/-- the slots that the def writes as they are now, the others as they were -/
def mixD (own : List Nat) (ρ0 ρ : DE) : DE := own.foldl (fun r j => r.set j (ρ.getD j none)) ρ0
theorem mixD_length (ρ : DE) : ∀ (own : List Nat) (ρ0 : DE), (mixD own ρ0 ρ).length = ρ0.length
  | [], _ => rfl
  | j :: own, ρ0 => by
    show (mixD own (ρ0.set j (ρ.getD j none)) ρ).length = _
    rw [mixD_length ρ own, List.length_set]
theorem mixD_off (ρ : DE) {i : Nat} : ∀ (own : List Nat) (ρ0 : DE), i ∉ own → (mixD own ρ0 ρ)[i]? = ρ0[i]?
  | [], _, _ => rfl
  | j :: own, ρ0, h => by
    show (mixD own (ρ0.set j (ρ.getD j none)) ρ)[i]? = _
    rw [mixD_off ρ own _ fun z => h (List.mem_cons_of_mem _ z), List.getElem?_set_ne fun z => h (by rw [z]; exact List.mem_cons_self)]
theorem mixD_on (ρ : DE) {i : Nat} : ∀ (own : List Nat) (ρ0 : DE), i ∈ own → ρ0.length = ρ.length → i < ρ0.length → (mixD own ρ0 ρ)[i]? = ρ[i]?
  | j :: own, ρ0, h, hl, hi => by
    show (mixD own (ρ0.set j (ρ.getD j none)) ρ)[i]? = _
    by_cases hm : i ∈ own
    · exact mixD_on ρ own _ hm (by rw [List.length_set, hl]) (by rw [List.length_set]; exact hi)
    · have e : i = j := (List.mem_cons.mp h).elim id fun z => absurd z hm
      subst e
      rw [mixD_off ρ own _ hm, List.getElem?_set_self hi, List.getD_eq_getElem?_getD, List.getElem?_eq_getElem (by rw [← hl]; exact hi)]
      rfl
theorem EnvOk.mix (E : EnvOk G B own ρ0 σ H) (k : KS own σ H own σ H') (E' : EnvOk G B own ρ σ' H') (hl : ρ.length = ρ0.length) (hσ : ∀ j ∈ own, σ'[j]? = σ[j]?) : EnvOk G B own (mixD own ρ0 ρ) σ H' := by
  have iff : ∀ b, IsOwn own σ' b ↔ IsOwn own σ b := fun b => ⟨fun ⟨j, hj, e⟩ => ⟨j, hj, by rw [← hσ j hj]; exact e⟩, fun ⟨j, hj, e⟩ => ⟨j, hj, by rw [hσ j hj]; exact e⟩⟩
  have hR : RS B own σ' = RS B own σ := rs_congr iff
  refine ⟨by rw [mixD_length, E.len], E'.same, fun j x h1 h2 => ?_, fun j x h1 h2 => ?_, fun j h1 => ?_, E.inj, E.frs, E'.hide⟩
  · rw [mixD_off ρ own ρ0 h2] at h1
    obtain ⟨v, q1, q2⟩ := E.rep j x h1 h2
    exact ⟨v, q1, q2.ks E k⟩
  · have hlt : j < ρ0.length := by
      have := (List.getElem?_eq_some_iff.mp h1).1
      rw [mixD_length] at this
      exact this
    rw [mixD_on ρ own ρ0 h2 hl.symm hlt] at h1
    obtain ⟨a, vs, ds, q1, q2, q3, q4, q5⟩ := E'.wr j x h1 h2
    rw [hR] at q4
    exact ⟨a, vs, ds, q1, by rw [← hσ j h2]; exact q2, q3, q4, q5⟩
  · by_cases hj : j ∈ own
    · have hlt : j < ρ0.length := by
        have := (List.getElem?_eq_some_iff.mp h1).1
        rw [mixD_length] at this
        exact this
      rw [mixD_on ρ own ρ0 hj hl.symm hlt] at h1
      rw [← hσ j hj]
      exact E'.non j h1
    · rw [mixD_off ρ own ρ0 hj] at h1
      exact E.non j h1
/-- a new object that is kept out of all data -/
abbrev Bs.more (B : Bs) (p : Addr) : Bs := { B with hid := fun b => B.hid b ∨ b = p }
theorem EnvOk.hideNew {p : Addr} {u : HO} (E : EnvOk G B own ρ σ H) (hp : H p = none) : EnvOk G (B.more p) own ρ σ (upd H p u) := by
  have x := ext_upd (o := u) hp
  have w : ∀ b, RS B own σ b ∧ (∃ u, H b = some u) → RS (B.more p) own σ b := fun b r => ⟨r.1.1, r.1.2.1, fun z => z.elim r.1.2.2 fun e => by
    obtain ⟨u, q⟩ := r.2
    rw [e, hp] at q
    cases q⟩
  refine ⟨E.len, fun b u h1 h2 => x b u (E.same b u h1 h2), fun i d h1 h2 => ?_, fun i d h1 h2 => ?_, E.non, E.inj, E.frs, fun b hb => ?_⟩
  · obtain ⟨v, q1, q2⟩ := E.rep i d h1 h2
    exact ⟨v, q1, ((Sd.mv Mv.tracked d v q2).imp w).ext x⟩
  · obtain ⟨a, vs, ds, q1, q2, q3, q4, q5, q6⟩ := E.wr i d h1 h2
    exact ⟨a, vs, ds, q1, q2, x _ _ q3, ((SdL.mv Mv.tracked ds vs q4).imp w).ext x, q5, fun z => z.elim q6 fun e => by rw [e, hp] at q3; cases q3⟩
  · rcases hb with z | z
    · obtain ⟨u, q⟩ := E.hide b z
      exact ⟨u, x b u q⟩
    · subst z
      exact ⟨_, upd_same⟩
theorem EnvOk.unhide {p : Addr} (E : EnvOk G (B.more p) own ρ σ H) : EnvOk G B own ρ σ H := by
  have w : ∀ b, RS (B.more p) own σ b → RS B own σ b := fun b r => ⟨r.1, r.2.1, fun z => r.2.2 (.inl z)⟩
  refine ⟨E.len, E.same, fun i d h1 h2 => ?_, fun i d h1 h2 => ?_, E.non, E.inj, E.frs, fun b hb => E.hide b (.inl hb)⟩
  · obtain ⟨v, q1, q2⟩ := E.rep i d h1 h2
    exact ⟨v, q1, q2.imp w⟩
  · obtain ⟨a, vs, ds, q1, q2, q3, q4, q5, q6⟩ := E.wr i d h1 h2
    exact ⟨a, vs, ds, q1, q2, q3, q4.imp w, q5, fun z => q6 (.inl z)⟩
/-- the hidden object is written -/
theorem mv_hid {p : Addr} (k : ∀ b u, b ≠ p → H b = some u → H' b = some u) (hp : ∃ u, H p = some u ∧ mutK u = true) : Mv (RS (B.more p) own σ) (RS (B.more p) own σ) H H' := fun b u h => by
  refine ⟨fun z => k b u (fun e => ?_) h, fun _ r => ⟨k b u (fun e => r.2.2 (.inr e)) h, r⟩⟩
  obtain ⟨u', q, m⟩ := hp
  rw [e, q] at h
  cases h
  rw [m] at z
  cases z
theorem EnvOk.writeHid {p : Addr} (E : EnvOk G (B.more p) own ρ σ H) (k : ∀ b u, b ≠ p → H b = some u → H' b = some u) (hp : ∃ u, H p = some u ∧ mutK u = true) (hp' : ∃ u, H' p = some u) (hB : B.H0 p = none) : EnvOk G (B.more p) own ρ σ H' := by
  refine ⟨E.len, fun b u h1 h2 => k b u (fun e => by rw [e, hB] at h2; cases h2) (E.same b u h1 h2), fun i d h1 h2 => ?_, fun i d h1 h2 => ?_, E.non, E.inj, E.frs, fun b hb => ?_⟩
  · obtain ⟨v, q1, q2⟩ := E.rep i d h1 h2
    exact ⟨v, q1, Sd.mv (mv_hid k hp) d v q2⟩
  · obtain ⟨a, vs, ds, q1, q2, q3, q4, q5, q6⟩ := E.wr i d h1 h2
    exact ⟨a, vs, ds, q1, q2, k a _ (fun e => q6 (.inr e)) q3, SdL.mv (mv_hid k hp) ds vs q4, q5, q6⟩
  · by_cases e : b = p
    · rw [e]
      exact hp'
    · obtain ⟨u, q⟩ := E.hide b hb
      exact ⟨u, k b u e q⟩
end

/-! ### [elt for target in iter if ..] -/
def lcL (vs : List Nat) (g : GD) (c : BD) (f : TD) : List D → DE → Option (List D × DE)
  | [], ρ => some ([], ρ)
  | d :: ds, ρ => (g d ρ).bind fun ρ1 => (c ρ1).bind fun p => if p.1 = true then (f p.2).bind fun q => (lcL vs g c f ds (wipeD q.2 vs)).map fun r => (q.1 :: r.1, r.2) else lcL vs g c f ds (wipeD p.2 vs)
def dLc (own vs : List Nat) (it : LD) (g : GD) (c : BD) (f : TD) : TD := fun ρ => (it ρ).bind fun p => if p.1.length < sizeLine then (lcL vs g c f p.1 (wipeD p.2 vs)).map fun q => (.lst q.1, mixD own p.2 q.2) else none
def bYes : BD := fun ρ => some (true, ρ)
section
variable {G : Gp} {own ts vs : List Nat}
theorem lcL_len (h : True) {g : GD} {c : BD} {f : TD} : ∀ {ds : List D} {ρ : DE} {r : List D × DE}, lcL vs g c f ds ρ = some r → r.1.length ≤ ds.length
  | [], _, _, e => by cases e; exact Nat.le_refl _
  | d :: ds, ρ, r, e => by
    unfold lcL at e
    cases e1 : g d ρ with
    | none => rw [e1] at e; cases e
    | some ρ1 =>
      rw [e1, Option.bind_some] at e
      cases e2 : c ρ1 with
      | none => rw [e2] at e; cases e
      | some p =>
        rw [e2, Option.bind_some] at e
        split at e
        · cases e3 : f p.2 with
          | none => rw [e3] at e; cases e
          | some q =>
            rw [e3, Option.bind_some] at e
            cases e4 : lcL vs g c f ds (wipeD q.2 vs) with
            | none => rw [e4] at e; cases e
            | some r' =>
              rw [e4] at e
              cases e
              exact Nat.succ_le_succ (lcL_len h e4)
        · exact Nat.le_succ_of_le (lcL_len h e)
theorem lc_read {it : LD} {g : GD} {c : BD} {f : TD} {σ : St} {H : Hp} {Q : VK} {n : Nat} (hn : σ.length = n) (hs : ∀ t ∈ ts, t ∈ vs) (hd : ∀ v ∈ vs, v ∉ own) (hv : ∀ v ∈ vs, v < n) (w : tD G own (dLc own vs it g c f) σ H Q) :
    tLc (iD G own it) (gD G own ts g) (tT G own c) (tD G own f) vs σ H Q := by
  obtain ⟨B, ρ, d, ρ', E, e, q⟩ := w
  unfold dLc at e
  cases ei : it ρ with
  | none => rw [ei] at e; cases e
  | some p =>
    rw [ei, Option.bind_some] at e
    split at e
    · rename_i hz
      cases el : lcL vs g c f p.1 (wipeD p.2 vs) with
      | none => rw [el] at e; cases e
      | some r =>
        rw [el] at e
        cases e
        refine ⟨B, ρ, p.1, p.2, E, ei, fun J H1 E1 k1 Y Dd hD => ?_⟩
        have hlen : p.2.length = n := by rw [E1.len, hn]
        have iow := isOwn_wipe (own := own) (σ := σ) vs hd
        have E2 : EnvOk G (B.more Dd) own (wipeD p.2 vs) (L2.wipe σ vs) (upd H1 Dd (.lst [])) := (E1.hideNew hD).wipe vs hd fun v h => by rw [hlen]; exact hv v h
        have k2 : KS own σ H1 own (L2.wipe σ vs) (upd H1 Dd (.lst [])) := (KS.ext (ext_upd hD)).trans (KS.same iow)
        have h0 : B.H0 Dd = none := E1.h0 hD
        refine ⟨fun i m H => m = p.1.length - i ∧ i ≤ p.1.length ∧ ∃ ρi acc va rest, EnvOk G (B.more Dd) own ρi (L2.wipe σ vs) H ∧ KS own σ H1 own (L2.wipe σ vs) H ∧ H Dd = some (.lst va) ∧ SdL G (RS (B.more Dd) own (L2.wipe σ vs)) H acc va ∧ acc.length ≤ i ∧
          lcL vs g c f (p.1.drop i) ρi = some (rest, r.2) ∧ acc ++ rest = r.1, ⟨p.1.length, rfl, Nat.zero_le _, wipeD p.2 vs, [], [], r.1, E2, k2, upd_same, rfl, Nat.le_refl _, by rw [List.drop_zero]; exact el, rfl⟩, ?_⟩
        rintro i m H ⟨rfl, hi, ρi, acc, va, rest, Ei, ki, hDi, sa, ha, elc, eacc⟩
        have newR : ∀ p, H p = none → RS (B.more Dd) own (L2.wipe σ vs) p := Ei.new
        have kw : KS own σ H1 own (L2.wipe σ vs) H := ki
        have Yi := Y (fun b => B.hid b ∨ b = Dd) i (L2.wipe σ vs) H (fun b z => z.imp_right fun e => by rw [e]; exact hD) newR ki
        by_cases hlt : i < p.1.length
        · have hdi : p.1[i]? = some p.1[i] := List.getElem?_eq_getElem hlt
          obtain ⟨go, yl⟩ := Yi.2 _ hdi
          rw [List.drop_eq_getElem_cons hlt] at elc
          unfold lcL at elc
          cases e1 : g p.1[i] ρi with
          | none => rw [e1] at elc; cases elc
          | some ρ1 =>
            rw [e1, Option.bind_some] at elc
            cases e2 : c ρ1 with
            | none => rw [e2] at elc; cases elc
            | some p2 =>
              rw [e2, Option.bind_some] at elc
              refine .inr ⟨go, fun H' => ∃ ρi acc va rest, EnvOk G (B.more Dd) own ρi (L2.wipe σ vs) H' ∧ KS own σ H1 own (L2.wipe σ vs) H' ∧ H' Dd = some (.lst va) ∧ SdL G (RS (B.more Dd) own (L2.wipe σ vs)) H' acc va ∧ acc.length ≤ i + 1 ∧
                lcL vs g c f (p.1.drop (i + 1)) ρi = some (rest, r.2) ∧ acc ++ rest = r.1, fun H' h => ⟨p.1.length - (i + 1), by omega, rfl, hlt, h⟩, fun x H2 y => ?_⟩
              obtain ⟨x2, sx⟩ := yl x H2 y
              refine ⟨B.more Dd, ρi, _, ρ1, Ei.ext x2, sx, e1, fun σ3 H3 E3 k3 j3 => ⟨wipe_back hs j3.1 j3.2, B.more Dd, ρ1, p2.1, p2.2, E3, e2, fun H4 E4 k4 => ?_⟩⟩
              have wb : L2.wipe σ3 vs = L2.wipe σ vs := wipe_back hs j3.1 j3.2
              have len3 : σ3.length = n := by rw [j3.2, wipe_length, hn]
              have io3 := isOwn_wipe (own := own) (σ := σ3) vs hd
              have io : ∀ b, IsOwn own (L2.wipe σ vs) b ↔ IsOwn own σ3 b := fun b => by rw [← wb]; exact io3 b
              have R3 : RS (B.more Dd) own (L2.wipe σ vs) = RS (B.more Dd) own σ3 := rs_congr io
              have k24 : KS own (L2.wipe σ vs) H own σ3 H4 := ((KS.ext x2).trans k3).trans k4
              have notOwn : ¬ IsOwn own (L2.wipe σ vs) Dd := fun z => by
                obtain ⟨us, q⟩ := E1.ownL ((iow Dd).mp z)
                rw [hD] at q
                cases q
              have hD4 : H4 Dd = some (.lst va) := (k24 Dd _ hDi notOwn).1
              have sa4 : SdL G (RS (B.more Dd) own σ3) H4 acc va := sa.ks Ei k24
              split at elc
              · rename_i hb
                rw [hb]
                refine iteT ?_
                cases e3 : f p2.2 with
                | none => rw [e3] at elc; cases elc
                | some q3 =>
                  rw [e3, Option.bind_some] at elc
                  cases e4 : lcL vs g c f (p.1.drop (i + 1)) (wipeD q3.2 vs) with
                  | none => rw [e4] at elc; cases elc
                  | some r4 =>
                    rw [e4] at elc
                    obtain ⟨hr1, hr2⟩ := Prod.mk.inj (Option.some.inj elc)
                    subst hr1
                    refine ⟨B.more Dd, p2.2, q3.1, q3.2, E4, e3, fun y H5 E5 k5 s5 => ?_⟩
                    have not3 : ¬ IsOwn own σ3 Dd := fun z => notOwn ((io Dd).mpr z)
                    have hD5 : H5 Dd = some (.lst va) := (k5 Dd _ hD4 not3).1
                    have sa5 := sa4.ks E4 k5
                    refine ⟨va, hD5, by rw [sa5.length]; omega, ?_⟩
                    have kk : ∀ b u, b ≠ Dd → H5 b = some u → (upd H5 Dd (.lst (va ++ [y]))) b = some u := fun b u hb q => by rw [upd_ne hb]; exact q
                    have E6 := E5.writeHid (H' := upd H5 Dd (.lst (va ++ [y]))) kk ⟨_, hD5, rfl⟩ ⟨_, upd_same⟩ h0
                    have E7 := E6.wipe vs hd fun v h => by rw [E6.len, len3]; exact hv v h
                    rw [wb] at E7
                    refine ⟨wipeD q3.2 vs, acc ++ [q3.1], va ++ [y], r4.1, E7, ?_, upd_same, ?_, ?_, by rw [e4, ← hr2], ?_⟩
                    · intro b u hb nb
                      have hbD : b ≠ Dd := fun z => by rw [z, hD] at hb; cases hb
                      obtain ⟨g1, g2⟩ := (ki.trans (k24.trans k5)) b u hb nb
                      exact ⟨by rw [upd_ne hbD]; exact g1, fun z => g2 ((io b).mp z)⟩
                    · rw [R3]
                      exact SdL.mv (mv_hid kk ⟨_, hD5, rfl⟩) _ _ (sa5.snoc s5)
                    · rw [List.length_append, List.length_singleton]
                      omega
                    · rw [List.append_assoc]
                      exact eacc
              · rename_i hb
                have hbf : p2.1 = false := by cases h : p2.1 with | false => rfl | true => exact absurd h hb
                rw [hbf]
                refine iteF ?_
                have E7 := E4.wipe vs hd fun v h => by rw [E4.len, len3]; exact hv v h
                rw [wb] at E7
                refine ⟨wipeD p2.2 vs, acc, va, rest, E7, ?_, hD4, by rw [R3]; exact sa4, by omega, elc, eacc⟩
                intro b u hb nb
                obtain ⟨g1, g2⟩ := (ki.trans k24) b u hb nb
                exact ⟨g1, fun z => g2 ((io b).mp z)⟩
        · have ei' : i = p.1.length := by omega
          subst ei'
          rw [List.drop_length] at elc
          cases elc
          rw [List.append_nil] at eacc
          subst eacc
          refine .inl ⟨Yi.1 rfl, ?_⟩
          have kσ : KS own σ H1 own σ H := fun b u hb nb => by
            obtain ⟨g1, g2⟩ := ki b u hb nb
            exact ⟨g1, nb⟩
          have Ee := Ei.unhide
          have le : r.2.length = p.2.length := by rw [Ei.len, wipe_length, hn, hlen]
          have Em := E1.mix kσ Ee le fun j hj => wipe_off fun z => hd j z hj
          refine q (.ref Dd) H Em (k1.trans kσ) ⟨Dd, va, rfl, hDi, E1.new Dd hD, ?_⟩
          have RR : RS (B.more Dd) own (L2.wipe σ vs) = RS (B.more Dd) own σ := rs_congr iow
          rw [RR] at sa
          exact sa.imp fun b r => ⟨r.1, r.2.1, fun z => r.2.2 (.inl z)⟩
    · cases e
end
section
variable {X : Cx} {G : Gp} {own ts : List Nat}
theorem PE.weakN {e : Expr} {t t' : TE} (h : PE X e t) (w : ∀ σ H Q, σ.length = X.N.length → t' σ H Q → t σ H Q) : PE X e t' := ⟨fun pins s σ H Q I q => h.run pins s σ H Q I (w σ H Q I.len q)⟩
theorem PS.weakN {e : Stmt} {t t' : TS} (h : PS X e t) (w : ∀ D σ H, σ.length = X.N.length → t' D σ H → t D σ H) : PS X e t' := ⟨fun pins s σ H D I q => h.run pins s σ H D I (w D σ H I.len q)⟩
/-- the slots of a comprehension's own names: in the def's list of names, none that the def writes, all that the target stores -/
def lcOk (n : Nat) (own ts vs : List Nat) : Bool := ts.all (fun t => vs.contains t) && vs.all (fun v => !own.contains v) && vs.all (fun v => decide (v < n))
theorem lcOk_of {n : Nat} {own ts vs : List Nat} (h : lcOk n own ts vs = true) : (∀ t ∈ ts, t ∈ vs) ∧ (∀ v ∈ vs, v ∉ own) ∧ ∀ v ∈ vs, v < n := by
  simp only [lcOk, Bool.and_eq_true, List.all_eq_true, decide_eq_true_eq] at h
  refine ⟨fun t ht => List.contains_iff_mem.mp (h.1.1 t ht), fun v hv z => ?_, h.2⟩
  have := h.1.2 v hv
  rw [List.contains_iff_mem.mpr z] at this
  cases this
theorem vlc {elt tg iter : Expr} {ifs : List Expr} {scope : Scope} {ow : List (Str × Nat)} {pos : Pos} {it : LD} {g : GD} {c : BD} {f : TD} (hc : X.calm = true) (hN : X.N.Nodup) (hi : PI X tg iter (iD G own it)) (ok : BlkOk X.N X.env.scope scope ow) (hk : lcOk X.N.length own ts (ow.map (·.2)) = true)
    (hg : ∀ (s : Shared) (H : Hp) (C : Addr) (cl : List (Str × Addr)) (fp : List Addr), PG (X.blk s H scope (compEnvC scope cl C X.env) fp) tg (gD G own ts g))
    (ht : ∀ (s : Shared) (H : Hp) (C : Addr) (cl : List (Str × Addr)) (fp : List Addr), PTs (X.blk s H scope (compEnvC scope cl C X.env) fp) ifs (tT G own c))
    (he : ∀ (s : Shared) (H : Hp) (C : Addr) (cl : List (Str × Addr)) (fp : List Addr), PE (X.blk s H scope (compEnvC scope cl C X.env) fp) elt (tD G own f)) (hs : ∀ x, foldedSetIterable iter X.env x = pure x := by intro _; rfl) :
    PE X (.ListComp elt [⟨tg, iter, ifs, 0⟩] scope pos) (tD G own (dLc own (ow.map (·.2)) it g c f)) :=
  PE.weakN (pe_lc hc hN hi ok hg ht he hs) fun σ H Q hl w => let ⟨h1, h2, h3⟩ := lcOk_of hk; lc_read hl h1 h2 h3 w
theorem pts0 : PTs X [] (tT G own bYes) := ⟨fun pins s σ H Q I w => pts_nil.run pins s σ H Q I (by
  obtain ⟨B, ρ, b, ρ', E, e, q⟩ := w
  cases e
  exact q H E KS.refl)⟩
theorem pts1 {c : Expr} {f : BD} (h : PT X c (tT G own f)) : PTs X [c] (tT G own f) := pts_one h
end
end DL
end
section
set_option Elab.async false
set_option linter.all false
set_option maxRecDepth 100000
set_option autoImplicit false
/-! The data layer: statements, a def's body and its promise. -/
namespace DL
open PySem PySem.Spec
open PyProof.Rows hiding St
open L2

section
variable {X : Cx} {G : Gp} {own o0 o1 o2 o3 o4 : List Nat} {pos : Pos} {e c tg iter : Expr} {st : Stmt} {rest : List Stmt}
/-- fewer slots that are written; slot 0 stays -/
def sub (a b : List Nat) : Bool := a.all (fun x => b.contains x) && (!b.contains 0 || a.contains 0)
theorem sub_of {a b : List Nat} (h : sub a b = true) : (∀ x ∈ a, x ∈ b) ∧ (0 ∈ b → 0 ∈ a) := by
  simp only [sub, Bool.and_eq_true, List.all_eq_true, Bool.or_eq_true] at h
  refine ⟨fun x hx => List.contains_iff_mem.mp (h.1 x hx), fun z => ?_⟩
  rcases h.2 with q | q
  · rw [List.contains_iff_mem.mpr z] at q
    cases q
  · exact List.contains_iff_mem.mp q
theorem spost {f : SD} (h : PS X st (sD G o1 o2 f)) (hs : sub o3 o2 = true := by rfl) : PS X st (sD G o1 o3 f) := PS.weak h fun D σ H w => by
  obtain ⟨B, ρ, r, E, e, q⟩ := w
  refine ⟨B, ρ, r, E, e, ?_⟩
  obtain ⟨h1, h2⟩ := sub_of hs
  cases r with
  | nx ρ' => exact fun σ' H' E' k => q σ' H' (E'.drop h1 h2) (k.trans (KS.drop h1))
  | rt d ρ' => exact q
theorem sposts {f : SD} {st : List Stmt} (h : PSs X st (sD G o1 o2 f)) (hs : sub o3 o2 = true := by rfl) : PSs X st (sD G o1 o3 f) := PSs.weak h fun D σ H w => by
  obtain ⟨B, ρ, r, E, e, q⟩ := w
  refine ⟨B, ρ, r, E, e, ?_⟩
  obtain ⟨h1, h2⟩ := sub_of hs
  cases r with
  | nx ρ' => exact fun σ' H' E' k => q σ' H' (E'.drop h1 h2) (k.trans (KS.drop h1))
  | rt d ρ' => exact q
theorem spre {f : SD} (h : PS X st (sD G o1 o2 f)) (hs : sub o1 o0 = true := by rfl) : PS X st (sD G o0 o2 f) := PS.weak h fun D σ H w => by
  obtain ⟨B, ρ, r, E, e, q⟩ := w
  obtain ⟨h1, h2⟩ := sub_of hs
  refine ⟨B, ρ, r, E.drop h1 h2, e, ?_⟩
  cases r with
  | nx ρ' => exact fun σ' H' E' k => q σ' H' E' ((KS.drop h1).trans k)
  | rt d ρ' => exact q
theorem spres {f : SD} {st : List Stmt} (h : PSs X st (sD G o1 o2 f)) (hs : sub o1 o0 = true := by rfl) : PSs X st (sD G o0 o2 f) := PSs.weak h fun D σ H w => by
  obtain ⟨B, ρ, r, E, e, q⟩ := w
  obtain ⟨h1, h2⟩ := sub_of hs
  refine ⟨B, ρ, r, E.drop h1 h2, e, ?_⟩
  cases r with
  | nx ρ' => exact fun σ' H' E' k => q σ' H' E' ((KS.drop h1).trans k)
  | rt d ρ' => exact q

/-! ### blocks -/
def sNil : SD := fun ρ => some (.nx ρ)
def sSeq (f g : SD) : SD := fun ρ => match f ρ with
  | some (.nx ρ') => g ρ'
  | r => r
theorem snil : PSs X [] (sD G own own sNil) := PSs.weak pss_nil fun D σ H w => by
  obtain ⟨B, ρ, r, E, e, q⟩ := w
  cases e
  exact q σ H E KS.refl
theorem sone {f : SD} (h : PS X st (sD G o1 o2 f)) : PSs X [st] (sD G o1 o2 f) := pss_one h
theorem scons {f g : SD} (h : PS X st (sD G o1 o2 f)) (k : PSs X rest (sD G o2 o3 g)) : PSs X (st :: rest) (sD G o1 o3 (sSeq f g)) := PSs.weak (pss_cons h k) fun D σ H w => by
  obtain ⟨B, ρ, r, E, e, q⟩ := w
  unfold sSeq at e
  cases ef : f ρ with
  | none => rw [ef] at e; cases e
  | some r1 =>
    rw [ef] at e
    refine ⟨B, ρ, r1, E, ef, ?_⟩
    cases r1 with
    | nx ρ1 =>
      refine fun σ1 H1 E1 k1 => ⟨B, ρ1, r, E1, e, ?_⟩
      cases r with
      | nx ρ' => exact fun σ2 H2 E2 k2 => q σ2 H2 E2 (k1.trans k2)
      | rt d ρ' => exact q
    | rt d ρ1 =>
      cases e
      exact q
def sRet (f : TD) : SD := fun ρ => (f ρ).map fun p => .rt p.1 p.2
theorem sret {f : TD} (h : PE X e (tD G o1 f)) : PS X (.Return (some e) pos) (sD G o1 o2 (sRet f)) := PS.weak (ps_ret h) fun D σ H w => by
  obtain ⟨B, ρ, r, E, e, q⟩ := w
  unfold sRet at e
  cases ef : f ρ with
  | none => rw [ef] at e; cases e
  | some p =>
    rw [ef] at e
    cases e
    exact ⟨B, ρ, p.1, p.2, E, ef, fun v H1 E1 k1 s1 => q o1 σ v H1 E1 s1⟩
def sIf (c : BD) (f g : SD) : SD := fun ρ => match c ρ with
  | some (true, ρ') => f ρ'
  | some (false, ρ') => g ρ'
  | none => none
theorem sif {t : BD} {f g : SD} {a b : List Stmt} (hc : PT X c (tT G o1 t)) (ha : PSs X a (sD G o1 o2 f)) (hb : PSs X b (sD G o1 o2 g)) : PS X (.If c a b pos) (sD G o1 o2 (sIf t f g)) := PS.weak (ps_if hc ha hb) fun D σ H w => by
  obtain ⟨B, ρ, r, E, e, q⟩ := w
  unfold sIf at e
  have go : ∀ {h : SD} {H' : Hp} {ρ' : DE}, EnvOk G B o1 ρ' σ H' → KS o1 σ H o1 σ H' → h ρ' = some r → sD G o1 o2 h D σ H' := fun {h H' ρ'} E' k e' => by
    refine ⟨B, ρ', r, E', e', ?_⟩
    cases r with
    | nx ρ2 => exact fun σ2 H2 E2 k2 => q σ2 H2 E2 (k.trans k2)
    | rt d ρ2 => exact q
  split at e
  · rename_i ρ1 ef
    exact ⟨B, ρ, _, _, E, ef, fun H' E' k => iteT (go E' k e)⟩
  · rename_i ρ1 ef
    exact ⟨B, ρ, _, _, E, ef, fun H' E' k => iteF (go E' k e)⟩
  · cases e
/-! ### assignments -/
def sSet (i : Nat) (f : TD) : SD := fun ρ => (f ρ).bind fun p => (gN i p.1 p.2).map Fl.nx
theorem set_nx {i : Nat} {f : TD} {ρ : DE} {r : Fl} (e : sSet i f ρ = some r) : ∃ d ρ1, f ρ = some (d, ρ1) ∧ i < ρ1.length ∧ r = .nx (ρ1.set i (some d)) := by
  unfold sSet at e
  cases ef : f ρ with
  | none => rw [ef] at e; cases e
  | some p =>
    rw [ef, Option.bind_some] at e
    unfold gN at e
    split at e
    · rename_i hl
      cases e
      exact ⟨p.1, p.2, rfl, hl, rfl⟩
    · cases e
theorem not_mem_of {i : Nat} (h : own.contains i = false) : i ∉ own := fun z => by rw [List.contains_iff_mem.mpr z] at h; cases h
theorem sset (i : Nat) {x : Str} {f : TD} {pos' : Pos} (hN : X.N.Nodup) (h : PE X e (tD G own f)) (ho : own.contains i = false := by rfl) (hi : X.N[i]? = some x := by rfl) (hx : Loc X.env.scope x := by first | exact Or.inl rfl | exact Or.inr rfl) (hs : swapsWith e (some (.Name x pos')) pos.line X.env = pure false := by rfl)
    (hf : X.fn x = true ∨ X.env.scope.names.lookup x = some .local := by first | exact .inl rfl | exact .inr rfl) : PS X (.Assign [.Name x pos'] e pos) (sD G own own (sSet i f)) := PS.weak (ps_set hN hi hx h hs hf) fun D σ H w => by
  obtain ⟨B, ρ, r, E, e, q⟩ := w
  obtain ⟨d, ρ1, ef, hl, rfl⟩ := set_nx e
  have hm := not_mem_of ho
  exact ⟨B, ρ, d, ρ1, E, ef, fun v H1 E1 k1 s1 => q _ H1 (E1.set hm hl s1) (k1.trans (KS.same fun b => isOwn_set hm b))⟩
/-- a new list, that the def will write -/
theorem ssetF (i : Nat) {x : Str} {f : TD} {pos' : Pos} (hN : X.N.Nodup) (h : PE X e (tF G own f)) (hf0 : ∀ ρ d ρ', f ρ = some (d, ρ') → ∃ ds, d = .lst ds) (i0 : i ≠ 0 := by decide) (hi : X.N[i]? = some x := by rfl) (hx : Loc X.env.scope x := by first | exact Or.inl rfl | exact Or.inr rfl) (hs : swapsWith e (some (.Name x pos')) pos.line X.env = pure false := by rfl)
    (hf : X.fn x = true ∨ X.env.scope.names.lookup x = some .local := by first | exact .inl rfl | exact .inr rfl) : PS X (.Assign [.Name x pos'] e pos) (sD G own (i :: own) (sSet i f)) := PS.weak (ps_set hN hi hx h hs hf) fun D σ H w => by
  obtain ⟨B, ρ, r, E, e, q⟩ := w
  obtain ⟨d, ρ1, ef, hl, rfl⟩ := set_nx e
  obtain ⟨ds, rfl⟩ := hf0 _ _ _ ef
  refine ⟨B, ρ, ds, ρ1, E, ef, fun p vs H1 H' E1 k1 hp x h' s => ?_⟩
  obtain ⟨E2, k2⟩ := E1.setNew i0 hl hp x h' s
  exact q _ H' E2 (k1.trans k2)
theorem dLst_lst {f : LD} {ρ ρ' : DE} {d : D} (e : dLst f ρ = some (d, ρ')) : ∃ ds, d = .lst ds := by
  unfold dLst at e
  cases ef : f ρ with
  | none => rw [ef] at e; cases e
  | some p =>
    rw [ef, Option.bind_some] at e
    split at e
    · cases e
      exact ⟨_, rfl⟩
    · cases e
theorem dLr_lst {f : RD} {ρ ρ' : DE} {d : D} (e : dLr f ρ = some (d, ρ')) : ∃ ds, d = .lst ds := by
  unfold dLr at e
  cases ef : f ρ with
  | none => rw [ef] at e; cases e
  | some p =>
    rw [ef, Option.bind_some] at e
    split at e
    · cases e
      exact ⟨_, rfl⟩
    · cases e
/-- name = [..] on one line, the name a local of the frame -/
theorem ssetLc (i : Nat) {y : Str} {py : Pos} {elt tg iter : Expr} {ifs : List Expr} {scope : Scope} {ow : List (Str × Nat)} {ts : List Nat} {lpos : Pos} {it : LD} {g : GD} {c : BD} {f : TD} (hc : X.calm = true) (hN : X.N.Nodup) (hi : PI X tg iter (iD G own it)) (ok : BlkOk X.N X.env.scope scope ow) (hk : lcOk X.N.length own ts (ow.map (·.2)) = true)
    (hg : ∀ (s : Shared) (H : Hp) (C : Addr) (cl : List (Str × Addr)) (fp : List Addr), PG (X.blk s H scope (compEnvC scope cl C X.env) fp) tg (gD G own ts g))
    (ht : ∀ (s : Shared) (H : Hp) (C : Addr) (cl : List (Str × Addr)) (fp : List Addr), PTs (X.blk s H scope (compEnvC scope cl C X.env) fp) ifs (tT G own c))
    (he : ∀ (s : Shared) (H : Hp) (C : Addr) (cl : List (Str × Addr)) (fp : List Addr), PE (X.blk s H scope (compEnvC scope cl C X.env) fp) elt (tD G own f))
    (hsw : swapsWith (.ListComp elt [⟨tg, iter, ifs, 0⟩] scope lpos) (some (.Name y py)) pos.line X.env = pure true) (ho : own.contains i = false := by rfl) (hy : X.N[i]? = some y := by rfl) (hyl : X.env.scope.names.lookup y = some .local := by rfl)
    (hs : ∀ x, foldedSetIterable iter X.env x = pure x := by intro _; rfl) : PS X (.Assign [.Name y py] (.ListComp elt [⟨tg, iter, ifs, 0⟩] scope lpos) pos) (sD G own own (sSet i (dLc own (ow.map (·.2)) it g c f))) :=
  PS.weakN (ps_setLc hc hN hy hyl hsw hi ok hg ht he hs) fun D σ H hl w => by
    obtain ⟨h1, h2, h3⟩ := lcOk_of hk
    obtain ⟨B, ρ, r, E, e, q⟩ := w
    obtain ⟨d, ρ1, ef, hl1, rfl⟩ := set_nx e
    have hm := not_mem_of ho
    exact lc_read hl h1 h2 h3 ⟨B, ρ, d, ρ1, E, ef, fun v H1 E1 k1 s1 => q _ H1 (E1.set hm hl1 s1) (k1.trans (KS.same fun b => isOwn_set hm b))⟩
/-- target = e: unpacking, x[i] = e -/
def sTg (f : TD) (g : GD) : SD := fun ρ => (f ρ).bind fun p => (g p.1 p.2).map Fl.nx
theorem stg {tg : Expr} {ts : List Nat} {f : TD} {g : GD} (h : PE X e (tD G own f)) (hg : PG X tg (gD G own ts g)) (hs : swapsWithSole [tg] e pos.line X.env = pure false := by rfl) (hw : swappedStores [tg] e X.env = pure none := by rfl)
    (h1 : (assignEach [tg] X.env).map (·.2) = [assign tg X.env] := by rfl) : PS X (.Assign [tg] e pos) (sD G own own (sTg f g)) := PS.weak (ps_asg h hg hs hw h1) fun D σ H w => by
  obtain ⟨B, ρ, r, E, e, q⟩ := w
  unfold sTg at e
  cases ef : f ρ with
  | none => rw [ef] at e; cases e
  | some p =>
    rw [ef, Option.bind_some] at e
    cases eg : g p.1 p.2 with
    | none => rw [eg] at e; cases e
    | some ρ2 =>
      rw [eg] at e
      cases e
      exact ⟨B, ρ, p.1, p.2, E, ef, fun v H1 E1 k1 s1 => ⟨B, p.2, p.1, ρ2, E1, s1, eg, fun σ2 H2 E2 k2 _ => q σ2 H2 E2 (k1.trans k2)⟩⟩
/-- x[i], x a list that the def writes -/
def gSto (i : Nat) (f : TD) : GD := fun d ρ => match ρ[i]? with
  | some (some _) => match f ρ with
    | some (.int k, ρ1) => match ρ1[i]? with
      | some (some (.lst l)) => (ixN l.length k).map fun j => ρ1.set i (some (.lst (l.set j d)))
      | _ => none
    | _ => none
  | _ => none
theorem tsub (i : Nat) {x : Str} {xp : Pos} {f : TD} (h : PE X e (tD G own f)) (hi : own.contains i = true := by rfl) (hN : X.N[i]? = some x := by rfl) (hv : Vis X.env.scope x := by first | exact Or.inl rfl | exact Or.inr (Or.inl rfl) | exact Or.inr (Or.inr rfl))
    (hd : (x == ("__debug__" : Str)) = false := by decide) (hcd : (x == ("__classdict__" : Str)) = false := by decide)
    (ha : ∀ v, assign (.Subscript (.Name x xp) e pos) X.env v = (do
      let ov ← holding [v] (eval (.Name x xp) X.env)
      let iv ← holding [v, ov] (eval e X.env)
      standAt pos
      holding [v, ov, iv] (setItem ov iv v)
      release [v, ov, iv] []) := by intro _; rfl) : PG X (.Subscript (.Name x xp) e pos) (gD G own [] (gSto i f)) := PG.weak (pg_sub (pe_var hN hv hd hcd) h set_list ha) fun v σ H Q w => by
  obtain ⟨B, ρ, d, ρ', E, s, e, q⟩ := w
  unfold gSto at e
  split at e
  · rename_i d0 e0
    obtain ⟨a, _, _, _, ea, _⟩ := ownAt E hi e0
    split at e
    · rename_i k ρ1 ef
      split at e
      · rename_i l e1
        cases ej : ixN l.length k with
        | none => rw [ej] at e; cases e
        | some j =>
          rw [ej] at e
          cases e
          refine ⟨.ref a, ea, B, ρ, _, _, E, ef, fun iv H1 E1 k1 s1 => ?_⟩
          obtain ⟨a', us, _, hz, ea', ha', sl⟩ := ownAt E1 hi e1
          cases hz
          rw [ea] at ea'
          cases ea'
          refine ⟨a, us, k, j, rfl, s1, ha', by rw [sl.length]; exact ej, ?_⟩
          have kk : ∀ b u, b ≠ a → H1 b = some u → (upd H1 a (.lst (us.set j v))) b = some u := fun b u hb q => by rw [upd_ne hb]; exact q
          have hmem := List.contains_iff_mem.mp hi
          have no : ∀ b, RS B own σ b → b ≠ a := fun b r z => r.2.1 ⟨i, hmem, by rw [z]; exact ea⟩
          have mvA : Mv (RS B own σ) (RS B own σ) H1 (upd H1 a (.lst (us.set j v))) := fun b u hb => by
            refine ⟨fun z => kk b u (fun y => ?_) hb, fun _ r => ⟨kk b u (no b r) hb, r⟩⟩
            rw [y, ha'] at hb
            cases hb
            cases z
          obtain ⟨E2, k2⟩ := E1.write hmem e1 ea ha' kk upd_same (SdL.mv mvA _ _ (SdL.set (s.ks E k1) j sl))
          exact q σ _ E2 (k1.trans k2) ⟨fun _ _ => rfl, rfl⟩
      · cases e
    · cases e
  · cases e
/-- a, b = x, y: two locals -/
def sPar (i j : Nat) (f : LD) : SD := fun ρ => match f ρ with
  | some ([x, y], ρ') => if i < ρ'.length ∧ j < ρ'.length then some (.nx ((ρ'.set i (some x)).set j (some y))) else none
  | _ => none
theorem spar (i j : Nat) {x y : Str} {a b : Expr} {f : LD} {px py pt : Pos} {kt k2 : Nat} {pt2 : Pos} (hc : X.calm = true) (hN : X.N.Nodup) (h : PA X [a, b] (tA G own f)) (hw : swappedStores [.Tuple [.Name x px, .Name y py] kt pt] (.Tuple [a, b] k2 pt2) X.env = pure (some [x, y]) := by rfl)
    (hoi : own.contains i = false := by rfl) (hoj : own.contains j = false := by rfl) (hi : X.N[i]? = some x := by rfl) (hj : X.N[j]? = some y := by rfl) (hij : i ≠ j := by decide) (hx : X.env.scope.names.lookup x = some .local := by rfl) (hy : X.env.scope.names.lookup y = some .local := by rfl)
    (hs : swapsWithSole [.Tuple [.Name x px, .Name y py] kt pt] (.Tuple [a, b] k2 pt2) pos.line X.env = pure false := by rfl) : PS X (.Assign [.Tuple [.Name x px, .Name y py] kt pt] (.Tuple [a, b] k2 pt2) pos) (sD G own own (sPar i j f)) := PS.weak (ps_par hc hN hi hj hij hx hy h hw hs) fun D σ H w => by
  obtain ⟨B, ρ, r, E, e, q⟩ := w
  unfold sPar at e
  split at e
  · rename_i d1 d2 ρ1 ef
    split at e
    · rename_i hl
      cases e
      refine ⟨B, ρ, _, _, E, ef, fun vs H1 E1 k1 s1 => ?_⟩
      obtain ⟨v, u, rfl, sv, su⟩ := two_of s1
      have mi := not_mem_of hoi
      have mj := not_mem_of hoj
      have E2 := E1.set mi hl.1 sv
      have R2 : RS B own (σ.set i (some v)) = RS B own σ := rs_congr fun b => isOwn_set mi b
      have E3 := E2.set (d := d2) (v := u) mj (by rw [List.length_set]; exact hl.2) (by rw [R2]; exact su)
      exact ⟨v, u, rfl, q _ H1 E3 (k1.trans ((KS.same fun b => isOwn_set mi b).trans (KS.same fun b => isOwn_set mj b)))⟩
    · cases e
  · cases e
/-- a, b = x, [..]: the second a new list that the def will write -/
def sParF (i j : Nat) (f g : TD) : SD := fun ρ => (f ρ).bind fun p => (g p.2).bind fun r => if i < r.2.length ∧ j < r.2.length then some (.nx ((r.2.set i (some p.1)).set j (some r.1))) else none
theorem sparF (i j : Nat) {x y : Str} {a b : Expr} {f g : TD} {px py pt : Pos} {kt k2 : Nat} {pt2 : Pos} (hc : X.calm = true) (hN : X.N.Nodup) (h : PE X a (tD G own f)) (hF : PE X b (tF G own g)) (hf0 : ∀ ρ d ρ', g ρ = some (d, ρ') → ∃ ds, d = .lst ds)
    (hw : swappedStores [.Tuple [.Name x px, .Name y py] kt pt] (.Tuple [a, b] k2 pt2) X.env = pure (some [x, y]) := by rfl)
    (hoi : own.contains i = false := by rfl) (j0 : j ≠ 0 := by decide) (hi : X.N[i]? = some x := by rfl) (hj : X.N[j]? = some y := by rfl) (hij : i ≠ j := by decide) (hx : X.env.scope.names.lookup x = some .local := by rfl) (hy : X.env.scope.names.lookup y = some .local := by rfl)
    (hs : swapsWithSole [.Tuple [.Name x px, .Name y py] kt pt] (.Tuple [a, b] k2 pt2) pos.line X.env = pure false := by rfl) (ha : starEach [a, b] X.env = (false, eval a X.env) :: starEach [b] X.env := by rfl) (hb : starEach [b] X.env = (false, eval b X.env) :: starEach [] X.env := by rfl) :
    PS X (.Assign [.Tuple [.Name x px, .Name y py] kt pt] (.Tuple [a, b] k2 pt2) pos) (sD G own (j :: own) (sParF i j f g)) := PS.weak (ps_par hc hN hi hj hij hx hy (pa_cons h (pa_cons hF pa_nil hb) ha) hw hs) fun D σ H w => by
  obtain ⟨B, ρ, r, E, e, q⟩ := w
  unfold sParF at e
  cases ef : f ρ with
  | none => rw [ef] at e; cases e
  | some p =>
    rw [ef, Option.bind_some] at e
    cases eg : g p.2 with
    | none => rw [eg] at e; cases e
    | some r1 =>
      rw [eg, Option.bind_some] at e
      split at e
      · rename_i hl
        cases e
        obtain ⟨d2, ρ2⟩ := r1
        obtain ⟨ds, rfl⟩ := hf0 _ _ _ eg
        refine ⟨B, ρ, p.1, p.2, E, ef, fun v H1 E1 k1 s1 => ⟨B, p.2, ds, ρ2, E1, eg, fun pp vs H2 H3 E2 k2 hp x2 h3 s3 => ⟨v, .ref pp, rfl, ?_⟩⟩⟩
        have mi := not_mem_of hoi
        have E3 := E2.set mi hl.1 (s1.ks E1 k2)
        have R3 : RS B own (σ.set i (some v)) = RS B own σ := rs_congr fun b => isOwn_set mi b
        obtain ⟨E4, k4⟩ := E3.setNew (i := j) (ds := ds) (vs := vs) j0 (by rw [List.length_set]; exact hl.2) hp x2 h3 (by rw [R3]; exact s3)
        exact q _ H3 E4 ((k1.trans k2).trans ((KS.same fun b => isOwn_set mi b).trans k4))
      · cases e
/-- x += e, ints -/
def sAug (i : Nat) (f : TD) : SD := fun ρ => match ρ[i]? with
  | some (some (.int a)) => match f ρ with
    | some (.int b, ρ') => if i < ρ'.length then some (.nx (ρ'.set i (some (.int (a + b))))) else none
    | _ => none
  | _ => none
theorem saug (i : Nat) {x : Str} {f : TD} {pos' : Pos} (hN : X.N.Nodup) (h : PE X e (tD G own f)) (ho : own.contains i = false := by rfl) (hi : X.N[i]? = some x := by rfl) (hx : Loc X.env.scope x := by first | exact Or.inl rfl | exact Or.inr rfl)
    (hf : X.fn x = true ∨ X.env.scope.names.lookup x = some .local := by first | exact .inl rfl | exact .inr rfl) : PS X (.AugAssign (.Name x pos') .Add e pos) (sD G own own (sAug i f)) := PS.weak (ps_aug hN hi hx h ip_add hf) fun D σ H w => by
  obtain ⟨B, ρ, r, E, e, q⟩ := w
  unfold sAug at e
  split at e
  · rename_i a ea
    split at e
    · rename_i b ρ1 ef
      split at e
      · rename_i hl
        cases e
        have hm := not_mem_of ho
        obtain ⟨v, ev, sv⟩ := E.rep i _ ea hm
        refine ⟨v, ev, B, ρ, _, _, E, ef, fun u H1 E1 k1 s1 => ⟨a, b, sv, s1, ?_⟩⟩
        exact q _ H1 (E1.set hm hl rfl) (k1.trans (KS.same fun b => isOwn_set hm b))
      · cases e
    · cases e
  · cases e
/-! ### x.append(e), x.extend(e) -/
def sApp (i : Nat) (f : TD) : SD := fun ρ => match ρ[i]? with
  | some (some _) => (f ρ).bind fun p => match p.2[i]? with
    | some (some (.lst l)) => if l.length < sizeLine then some (.nx (p.2.set i (some (.lst (l ++ [p.1]))))) else none
    | _ => none
  | _ => none
def sExt (i : Nat) (f : TD) : SD := fun ρ => match ρ[i]? with
  | some (some _) => (f ρ).bind fun p => match p.2[i]?, p.1 with
    | some (some (.lst l)), .lst m => if l.length + m.length ≤ sizeLine then some (.nx (p.2.set i (some (.lst (l ++ m))))) else none
    | _, _ => none
  | _ => none
theorem mv_own {B : Bs} {σ : St} {H H' : Hp} {i : Nat} {a : Addr} {vs : List V} (hi : i ∈ own) (ea : σ[i]? = some (some (.ref a))) (ha : H a = some (.lst vs)) (kk : ∀ b u, b ≠ a → H b = some u → H' b = some u) : Mv (RS B own σ) (RS B own σ) H H' := fun b u hb => by
  refine ⟨fun z => kk b u (fun y => ?_) hb, fun _ r => ⟨kk b u (fun y => r.2.1 ⟨i, hi, by rw [y]; exact ea⟩) hb, r⟩⟩
  rw [y, ha] at hb
  cases hb
  cases z
theorem sapp (i : Nat) {x : Str} {xp apos cpos : Pos} {f : TD} (h : PE X e (tD G own f)) (hi : own.contains i = true := by rfl) (hN : X.N[i]? = some x := by rfl) (hv : Vis X.env.scope x := by first | exact Or.inl rfl | exact Or.inr (Or.inl rfl) | exact Or.inr (Or.inr rfl))
    (hd : (x == ("__debug__" : Str)) = false := by decide) (hcd : (x == ("__classdict__" : Str)) = false := by decide) (hst : starEach [e] X.env = (false, eval e X.env) :: starEach [] X.env := by rfl)
    (hbase : attributeBase (.Name x xp) "append" X.env (eval (.Name x xp) X.env) = eval (.Name x xp) X.env := by rfl)
    (hfew : ((backTo cpos (starEach [e] X.env)).all (fun x => !x.1) && (backToKw cpos (keywordEach [] X.env)).all (fun x => x.1.isSome) && decide ([e].length + ([] : List Keyword).length + (if ([] : List Keyword).isEmpty then 0 else 1) < 30)) = true := by rfl)
    (hline : (apos.endLine == cpos.line) = true := by rfl) (hplain : (backTo cpos (starEach [] X.env)).any (·.1) = false := by rfl)
    (hs : swapsWith (.Call (.Attribute (.Name x xp) "append" apos) [e] [] cpos) none pos.line X.env = pure false := by rfl) :
    PS X (.Expr (.Call (.Attribute (.Name x xp) "append" apos) [e] [] cpos) pos) (sD G own own (sApp i f)) := PS.weak (ps_expr (pe_bm PySem.F.plainAttrs_list PySem.F.slot_list_append PySem.F.type_list_append mt_append (pe_var hN hv hd hcd) (pa_cons h pa_nil hst) hbase hfew hline hst hplain) hs) fun D σ H w => by
  obtain ⟨B, ρ, r, E, e, q⟩ := w
  unfold sApp at e
  split at e
  · rename_i d0 e0
    obtain ⟨a, vs0, _, _, ea, ha0, _⟩ := ownAt E hi e0
    cases ef : f ρ with
    | none => rw [ef] at e; cases e
    | some p =>
      rw [ef, Option.bind_some] at e
      split at e
      · rename_i l e1
        split at e
        · rename_i hl
          cases e
          refine ⟨.ref a, ea, .inl ⟨rfl, _, SqL.of ha0⟩, B, ρ, p.1, p.2, E, ef, fun v H1 E1 k1 s1 => ?_⟩
          obtain ⟨a', us, _, hz, ea', ha', sl⟩ := ownAt E1 hi e1
          cases hz
          rw [ea] at ea'
          cases ea'
          have hmem := List.contains_iff_mem.mp hi
          have kk : ∀ b u, b ≠ a → H1 b = some u → (upd H1 a (.lst (us ++ [v]))) b = some u := fun b u hb q => by rw [upd_ne hb]; exact q
          obtain ⟨E2, k2⟩ := E1.write hmem e1 ea ha' kk upd_same (SdL.mv (mv_own hmem ea ha' kk) _ _ (sl.snoc s1))
          exact ⟨a, us, v, rfl, rfl, ha', by rw [sl.length]; exact hl, q _ _ E2 (k1.trans k2)⟩
        · cases e
      · cases e
  · cases e
theorem sext (i : Nat) {x : Str} {xp apos cpos : Pos} {f : TD} (h : PE X e (tD G own f)) (hi : own.contains i = true := by rfl) (hN : X.N[i]? = some x := by rfl) (hv : Vis X.env.scope x := by first | exact Or.inl rfl | exact Or.inr (Or.inl rfl) | exact Or.inr (Or.inr rfl))
    (hd : (x == ("__debug__" : Str)) = false := by decide) (hcd : (x == ("__classdict__" : Str)) = false := by decide) (hst : starEach [e] X.env = (false, eval e X.env) :: starEach [] X.env := by rfl)
    (hbase : attributeBase (.Name x xp) "extend" X.env (eval (.Name x xp) X.env) = eval (.Name x xp) X.env := by rfl)
    (hfew : ((backTo cpos (starEach [e] X.env)).all (fun x => !x.1) && (backToKw cpos (keywordEach [] X.env)).all (fun x => x.1.isSome) && decide ([e].length + ([] : List Keyword).length + (if ([] : List Keyword).isEmpty then 0 else 1) < 30)) = true := by rfl)
    (hline : (apos.endLine == cpos.line) = true := by rfl) (hplain : (backTo cpos (starEach [] X.env)).any (·.1) = false := by rfl)
    (hs : swapsWith (.Call (.Attribute (.Name x xp) "extend" apos) [e] [] cpos) none pos.line X.env = pure false := by rfl) :
    PS X (.Expr (.Call (.Attribute (.Name x xp) "extend" apos) [e] [] cpos) pos) (sD G own own (sExt i f)) := PS.weak (ps_expr (pe_bm PySem.F.plainAttrs_list PySem.F.slot_list_extend PySem.F.type_list_extend mt_extend (pe_var hN hv hd hcd) (pa_cons h pa_nil hst) hbase hfew hline hst hplain) hs) fun D σ H w => by
  obtain ⟨B, ρ, r, E, e, q⟩ := w
  unfold sExt at e
  split at e
  · rename_i d0 e0
    obtain ⟨a, vs0, _, _, ea, ha0, _⟩ := ownAt E hi e0
    cases ef : f ρ with
    | none => rw [ef] at e; cases e
    | some p =>
      rw [ef, Option.bind_some] at e
      split at e
      · rename_i l m e1 em
        split at e
        · rename_i hl
          cases e
          refine ⟨.ref a, ea, .inl ⟨rfl, _, SqL.of ha0⟩, B, ρ, p.1, p.2, E, ef, fun v H1 E1 k1 s1 => ?_⟩
          obtain ⟨a', us, _, hz, ea', ha', sl⟩ := ownAt E1 hi e1
          cases hz
          rw [ea] at ea'
          cases ea'
          rw [em] at s1
          obtain ⟨b, ws, rfl, hb, hr, sm⟩ := s1
          have hmem := List.contains_iff_mem.mp hi
          have kk : ∀ b u, b ≠ a → H1 b = some u → (upd H1 a (.lst (us ++ ws))) b = some u := fun b u hb q => by rw [upd_ne hb]; exact q
          obtain ⟨E2, k2⟩ := E1.write hmem e1 ea ha' kk upd_same (SdL.mv (mv_own hmem ea ha' kk) _ _ (sl.append sm))
          exact ⟨a, b, us, ws, rfl, rfl, ha', hb, by rw [sl.length, sm.length]; exact hl, q _ _ E2 (k1.trans k2)⟩
        · cases e
      · cases e
  · cases e
/-! ### loops -/
def sForL (g : GD) (b : SD) : List D → SD
  | [], ρ => some (.nx ρ)
  | d :: ds, ρ => (g d ρ).bind fun ρ1 => match b ρ1 with
    | some (.nx ρ2) => sForL g b ds ρ2
    | r => r
def sFor (it : LD) (g : GD) (b : SD) : SD := fun ρ => (it ρ).bind fun p => sForL g b p.1 p.2
theorem sfor {it : LD} {g : GD} {b : SD} {ts : List Nat} {body : List Stmt} (hp : PassesOwn (model X.prog X.w) X.A X.env X.xe) (hc : X.calm = true) (hi : PI X tg iter (iD G own it)) (hg : PG X tg (gD G own ts g)) (hb : PSs X body (sD G own own b))
    (hs : ∀ x, foldedSetIterable iter X.env x = pure x := by intro _; rfl) : PS X (.For tg iter body [] pos) (sD G own own (sFor it g b)) := PS.weak (ps_for hp hc hi hg hb hs) fun D σ H w => by
  obtain ⟨B, ρ, r, E, e, q⟩ := w
  unfold sFor at e
  cases ei : it ρ with
  | none => rw [ei] at e; cases e
  | some p =>
    rw [ei, Option.bind_some] at e
    refine ⟨B, ρ, p.1, p.2, E, ei, fun J H1 E1 k1 Y => ?_⟩
    refine ⟨fun i m σ' H' => m = p.1.length - i ∧ i ≤ p.1.length ∧ ∃ ρi, EnvOk G B own ρi σ' H' ∧ KS own σ H1 own σ' H' ∧ sForL g b (p.1.drop i) ρi = some r, ⟨p.1.length, rfl, Nat.zero_le _, p.2, E1, KS.refl, by rw [List.drop_zero]; exact e⟩, ?_⟩
    rintro i m σ' H' ⟨rfl, hle, ρi, Ei, ki, ef⟩
    have Yi := Y B.hid i σ' H' (fun b z => .inl z) Ei.new ki
    by_cases hlt : i < p.1.length
    · have hdi : p.1[i]? = some p.1[i] := List.getElem?_eq_getElem hlt
      obtain ⟨go, yl⟩ := Yi.2 _ hdi
      rw [List.drop_eq_getElem_cons hlt] at ef
      unfold sForL at ef
      cases eg : g p.1[i] ρi with
      | none => rw [eg] at ef; cases ef
      | some ρ1 =>
        rw [eg, Option.bind_some] at ef
        refine .inr ⟨go, fun σ2 H2 => ∃ ρ2, b ρ1 = some (.nx ρ2) ∧ EnvOk G B own ρ2 σ2 H2 ∧ KS own σ H1 own σ2 H2, fun σ2 H2 h => ?_, fun x H2 y => ?_⟩
        · obtain ⟨ρ2, eb, E2, k2⟩ := h
          rw [eb] at ef
          exact ⟨p.1.length - (i + 1), by omega, rfl, hlt, ρ2, E2, k2, ef⟩
        · obtain ⟨x2, sx⟩ := yl x H2 y
          refine ⟨B, ρi, _, ρ1, Ei.ext x2, sx, eg, fun σ3 H3 E3 k3 _ => ?_⟩
          have k13 : KS own σ H1 own σ3 H3 := (ki.trans (KS.ext x2)).trans k3
          cases eb : b ρ1 with
          | none => rw [eb] at ef; cases ef
          | some r1 =>
            refine ⟨B, ρ1, r1, E3, eb, ?_⟩
            cases r1 with
            | nx ρ2 => exact fun σ4 H4 E4 k4 => ⟨ρ2, rfl, E4, k13.trans k4⟩
            | rt d ρ2 =>
              rw [eb] at ef
              cases ef
              exact q
    · have ei' : i = p.1.length := by omega
      subst ei'
      rw [List.drop_length] at ef
      cases ef
      exact .inl ⟨Yi.1 rfl, q σ' H' Ei (k1.trans ki)⟩
def sWh (c : BD) (b : SD) : Nat → SD
  | 0, _ => none
  | n + 1, ρ => match c ρ with
    | some (true, ρ1) => match b ρ1 with
      | some (.nx ρ2) => sWh c b n ρ2
      | r => r
    | some (false, ρ1) => some (.nx ρ1)
    | none => none
theorem swhile (n : Nat) {t : BD} {b : SD} {body : List Stmt} (hp : PassesOwn (model X.prog X.w) X.A X.env X.xe) (hc : PT X c (tT G own t)) (hb : PSs X body (sD G own own b)) : PS X (.While c body [] pos) (sD G own own (sWh t b n)) := PS.weak (ps_while hp hc hb) fun D σ H w => by
  obtain ⟨B, ρ, r, E, e, q⟩ := w
  refine ⟨fun m σ' H' => ∃ ρi, EnvOk G B own ρi σ' H' ∧ KS own σ H own σ' H' ∧ sWh t b m ρi = some r, ⟨n, ρ, E, KS.refl, e⟩, ?_⟩
  rintro m σ' H' ⟨ρi, Ei, ki, ef⟩
  cases m with
  | zero => cases ef
  | succ m =>
    unfold sWh at ef
    cases ec : t ρi with
    | none => rw [ec] at ef; cases ef
    | some p =>
      refine ⟨B, ρi, p.1, p.2, Ei, ec, fun H1 E1 k1 => ?_⟩
      rw [ec] at ef
      obtain ⟨c1, ρ1⟩ := p
      cases c1 with
      | true =>
        refine iteT ⟨fun σ2 H2 => ∃ ρ2, b ρ1 = some (.nx ρ2) ∧ EnvOk G B own ρ2 σ2 H2 ∧ KS own σ H own σ2 H2, fun σ2 H2 h => ?_, ?_⟩
        · obtain ⟨ρ2, eb, E2, k2⟩ := h
          simp only [eb] at ef
          exact ⟨m, Nat.lt_succ_self m, ρ2, E2, k2, ef⟩
        · cases eb : b ρ1 with
          | none => simp only [eb] at ef; cases ef
          | some r1 =>
            refine ⟨B, ρ1, r1, E1, eb, ?_⟩
            cases r1 with
            | nx ρ2 => exact fun σ4 H4 E4 k4 => ⟨ρ2, rfl, E4, (ki.trans k1).trans k4⟩
            | rt d ρ2 =>
              simp only [eb] at ef
              cases ef
              exact q
      | false =>
        cases ef
        exact iteF (q σ' H1 E1 (ki.trans k1))
end

/-! ### a def -/
def startD (n : Nat) (ds : List D) : DE := ds.map some ++ List.replicate (n - ds.length) none
def runP (n : Nat) (f : SD) : List D → Option D := fun ds => match f (startD n ds) with
  | some (.rt d _) => some d
  | some (.nx _) => some .non
  | none => none
def runS (n : Nat) (f : SD) : List D → List D → Option (D × List D) := fun l ds => match f (startD n (.lst l :: ds)) with
  | some (.rt d ρ) => match (ρ : List (Option D))[0]? with
    | some (some (D.lst l')) => some (d, l')
    | _ => none
  | _ => none
section
variable {P : Program} {w : World} {K : PySem.W.Frag} {mg : Str → Option Value} {base : Heap} {G : Gp} {x qual : Str} {st : Stmt} {f : Addr} {fd : FuncData} {N ps : List Str} {k : Nat} {o1 o2 : List Nat} {fb : SD} {dvs : List V} {kws : List (Str × V)}
/-- what is to be shown of a def's text -/
def Body (G : Gp) (P : Program) (w : World) (K : PySem.W.Frag) (mg : Str → Option Value) (base : Heap) (N : List Str) (qual : Str) (st : Stmt) (f : Addr) (k : Nat) (o1 o2 : List Nat) (fb : SD) : Prop :=
  ∀ (cdv : Value) (A : Around) (outer : List Env) (s : Shared) (H : Hp) (E : XK), Room k (A.deeper (envOfC qual (defScope st) s.heap.objs.size f cdv)) →
    PSs (cxOf CX0 P w K mg base N qual (defScope st) f cdv A outer s H E).nox (defBody st) (sD G o1 o2 fb)
theorem env_start {B : Bs} {H : Hp} {vs : List V} {ds : List D} (hB : B.H0 = H) (s : SdL G (RS B [] (L2.start N vs)) H ds vs) (hfr : B.fr = none) (hh : ∀ b, ¬ B.hid b) : EnvOk G B [] (startD N.length ds) (L2.start N vs) H := by
  have l := s.length
  refine ⟨by unfold startD L2.start; rw [List.length_append, List.length_append, List.length_map, List.length_map, List.length_replicate, List.length_replicate, l], fun b u _ h => by rw [← hB]; exact h, fun i d h1 _ => ?_, fun i d _ h2 => absurd h2 (by simp), fun i h1 => ?_, fun i j a hi => absurd hi (by simp), fun b hb => (by rw [hfr] at hb; cases hb), fun b hb => absurd hb (hh b)⟩
  · unfold startD at h1
    by_cases hi : i < ds.length
    · rw [List.getElem?_append_left (by simpa using hi), List.getElem?_map] at h1
      cases hd : ds[i]? with
      | none => rw [hd] at h1; cases h1
      | some d' =>
        rw [hd] at h1
        cases h1
        obtain ⟨v, e, sv⟩ := s.get hd
        refine ⟨v, ?_, sv⟩
        unfold L2.start
        rw [List.getElem?_append_left (by rw [List.length_map, l]; exact hi), List.getElem?_map, e]
        rfl
    · rw [List.getElem?_append_right (by simpa using hi), List.getElem?_replicate] at h1
      split at h1 <;> cases h1
  · unfold startD at h1
    unfold L2.start
    by_cases hi : i < ds.length
    · rw [List.getElem?_append_left (by simpa using hi), List.getElem?_map] at h1
      rw [List.getElem?_eq_getElem hi] at h1
      cases h1
    · rw [List.getElem?_append_right (by simpa using hi), List.getElem?_replicate] at h1
      rw [List.getElem?_append_right (by rw [List.length_map, l]; omega), List.getElem?_replicate]
      rw [List.length_map] at h1 ⊢
      rw [l]
      split at h1
      · rename_i h2
        rw [if_pos h2]
      · cases h1
theorem fn_p (Fu : FunD K x qual (defArgs st) (defBody st) (defScope st) dvs kws f fd) (S : FnScope N ps (defScope st)) (hb : Body G P w K mg base N qual st f k [] o2 fb) : FnOk P w K mg base CX0 (k + 1) f fd ps (spP G ps.length (runP N.length fb)) := by
  refine Fu.ok S (fun vs H Q E h => ?_) fun cdv A outer s H vs Q E hr h => ⟨_, PSs.nox (hb cdv A outer s H E hr), ?_⟩
  · obtain ⟨S', ds, d, s1, hl, _⟩ := h
    rw [s1.length, hl]
  · obtain ⟨S', ds, d, s1, hl, e, q⟩ := h
    unfold runP at e
    cases er : fb (startD N.length ds) with
    | none => rw [er] at e; cases e
    | some r =>
      rw [er] at e
      have E0 := env_start (G := G) (B := ⟨none, S', H, fun _ => False⟩) (N := N) rfl (s1.imp fun b hb => ⟨.inl hb, fun ⟨j, hj, _⟩ => absurd hj (by simp), id⟩) rfl fun _ z => z
      refine ⟨_, _, r, E0, er, ?_⟩
      cases r with
      | nx ρ' =>
        cases e
        exact fun σ' H' E' _ => q .non H' (fun b u h => E'.same b u (fun z => nomatch z) h) rfl
      | rt d' ρ' =>
        cases e
        exact fun o σ' v H' E' sv => q v H' (fun b u h => E'.same b u (fun z => nomatch z) h) (sv.imp fun b r => r.1)
theorem fn_s (Fu : FunD K x qual (defArgs st) (defBody st) (defScope st) dvs kws f fd) (S : FnScope N ps (defScope st)) (hb : Body G P w K mg base N qual st f k [0] o2 fb) : FnOk P w K mg base CX0 (k + 1) f fd ps (spS G ps.length (runS N.length fb)) := by
  refine Fu.ok S (fun vs H Q E h => ?_) fun cdv A outer s H vs Q E hr h => ⟨_, PSs.nox (hb cdv A outer s H E hr), ?_⟩
  · obtain ⟨S', sp, vr, us, l, ds, d, l', rfl, _, _, _, s1, hl, _⟩ := h
    rw [List.length_cons, s1.length, hl]
  · obtain ⟨S', sp, vr, us, l, ds, d, l', rfl, hsp, nS, sl, s1, hl, e, q⟩ := h
    unfold runS at e
    cases er : fb (startD N.length (.lst l :: ds)) with
    | none => rw [er] at e; cases e
    | some r =>
      rw [er] at e
      cases r with
      | nx ρ' => cases e
      | rt d' ρ' =>
        -- the start: first as if nothing were written, the list's address among the handed ones
        have z0 : SdL G (RS ⟨none, fun b => S' b ∨ b = sp, H, fun _ => False⟩ [] (L2.start N (V.ref sp :: vr))) H (.lst l :: ds) (V.ref sp :: vr) :=
          ⟨_, _, rfl, ⟨sp, us, rfl, hsp, ⟨.inl (.inr rfl), fun ⟨j, hj, _⟩ => absurd hj (by simp), id⟩, sl.imp fun b hb => ⟨.inl (.inl hb), fun ⟨j, hj, _⟩ => absurd hj (by simp), id⟩⟩, s1.imp fun b hb => ⟨.inl (.inl hb), fun ⟨j, hj, _⟩ => absurd hj (by simp), id⟩⟩
        have E0 := env_start (G := G) (B := ⟨none, fun b => S' b ∨ b = sp, H, fun _ => False⟩) (N := N) rfl z0 rfl fun _ z => z
        have h0 : (L2.start N (V.ref sp :: vr))[0]? = some (some (.ref sp)) := rfl
        have d0 : (startD N.length (.lst l :: ds))[0]? = some (some (.lst l)) := rfl
        have io : ∀ b, IsOwn [0] (L2.start N (V.ref sp :: vr)) b ↔ b = sp := fun b => by
          constructor
          · rintro ⟨j, hj, e2⟩
            have : j = 0 := by simpa using hj
            subst this
            rw [h0] at e2
            cases e2
            rfl
          · rintro rfl
            exact ⟨0, by simp, h0⟩
        have lift : ∀ b, S' b → RS ⟨some sp, S', H, fun _ => False⟩ [0] (L2.start N (V.ref sp :: vr)) b := fun b hb => ⟨.inl hb, fun z => nS (by rw [← (io b).mp z]; exact hb), id⟩
        have ES : EnvOk G ⟨some sp, S', H, fun _ => False⟩ [0] (startD N.length (.lst l :: ds)) (L2.start N (V.ref sp :: vr)) H := by
          refine ⟨E0.len, fun b u _ h => h, fun i d2 h1 h2 => ?_, fun i d2 h1 h2 => ?_, E0.non, fun i j a hi hj _ _ => ?_, fun b hb => ?_, fun b hb => hb.elim⟩
          · have i0 : i ≠ 0 := fun z => h2 (by simp [z])
            obtain ⟨j, rfl⟩ : ∃ j, i = j + 1 := ⟨i - 1, by omega⟩
            have e1 : ds[j]? = some d2 := by
              unfold startD at h1
              by_cases hj : j < ds.length
              · rw [List.getElem?_append_left (by simpa using hj), List.getElem?_map, List.getElem?_cons_succ] at h1
                cases hd : ds[j]? with
                | none => rw [hd] at h1; cases h1
                | some d' =>
                  rw [hd] at h1
                  cases h1
                  rfl
              · rw [List.getElem?_append_right (by simpa using hj), List.getElem?_replicate] at h1
                split at h1 <;> cases h1
            obtain ⟨v, e2, sv⟩ := s1.get e1
            refine ⟨v, ?_, sv.imp lift⟩
            unfold L2.start
            have hj : j < vr.length := (List.getElem?_eq_some_iff.mp e2).1
            rw [List.getElem?_append_left (by simpa using hj), List.getElem?_map, List.getElem?_cons_succ, e2]
            rfl
          · have i0 : i = 0 := by simpa using h2
            subst i0
            rw [d0] at h1
            cases h1
            exact ⟨sp, us, l, rfl, h0, hsp, sl.imp lift, .inr rfl, id⟩
          · have a1 : i = 0 := by simpa using hi
            have a2 : j = 0 := by simpa using hj
            rw [a1, a2]
          · cases hb
            exact ⟨by simp, h0⟩
        refine ⟨_, _, .rt d' ρ', ES, er, fun o σ' v H' E' sv => ?_⟩
        have e2 : ρ'[0]? = some (some (.lst l')) ∧ d' = d := by
          simp only at e
          split at e
          · rename_i l2 e2
            obtain ⟨h1, h2⟩ := Prod.mk.inj (Option.some.inj e)
            exact ⟨by rw [e2, h2], h1⟩
          · cases e
        obtain ⟨e2, rfl⟩ := e2
        obtain ⟨q0, q1⟩ := E'.frs sp rfl
        obtain ⟨a, us', _, hz, ea, ha, sl', _⟩ := E'.wr 0 _ e2 q0
        cases hz
        rw [q1] at ea
        cases ea
        have wk : ∀ b, RS ⟨some sp, S', H, fun _ => False⟩ o σ' b → (S' b ∨ H b = none) ∧ b ≠ sp := fun b r => ⟨r.1, fun z => r.2.1 ⟨0, q0, by rw [z]; exact q1⟩⟩
        exact q v H' us' (fun b u hb h => E'.same b u (fun z => hb (Option.some.inj z).symm) h) ha (sl'.imp wk) (sv.imp wk)
end
end DL
end
section
set_option Elab.async false
set_option linter.all false
set_option maxRecDepth 100000
set_option autoImplicit false
/-! The data layer: dicts whose keys are tuples: comprehensions, in, list(..). -/
namespace DL
open PySem PySem.Spec
open PyProof.Rows hiding St
open L2

section
variable {X : Cx} {G : Gp} {R : Addr → Prop} {pins : List (Addr × Obj)} {σ : St} {H H' : Hp} {s : Shared}
/-! ### from data to the heap -/
mutual
theorem Sd.nis (I : L2.Inv X pins σ H s) : ∀ (d : D) (v : V) (u : Value), Sd G R H d v → isK d = true → RelV v u → NestedIs s.heap (nk d) u
  | .non, _, u, h, _, r => by
    rw [show _ = V.non from h] at r
    cases (show u = Value.none from r)
    exact .none
  | .bl _, _, _, _, k, _ => by simp [isK] at k
  | .int i, _, u, h, _, r => by
    rw [show _ = V.int i from h] at r
    obtain ⟨t, rfl⟩ := r
    exact .int i t
  | .str x, _, u, h, _, r => by
    rw [show _ = V.str x from h] at r
    obtain ⟨t, rfl⟩ := r
    exact .text x t
  | .tup ds, _, u, h, k, r => by
    obtain ⟨a, vs, rfl, ha, hs⟩ := h
    cases (show u = Value.ref a from r)
    obtain ⟨its, rv, ⟨o, ho, hc, n, hd⟩, _⟩ := I.tuple (SqT.of ha)
    refine .tup ho hc hd ?_
    have q := SdL.nis I ds vs its hs (by simpa [isK] using k) rv
    simpa using q
  | .lst _, _, _, _, k, _ => by simp [isK] at k
  | .node _ _ _ _, _, _, _, k, _ => by simp [isK] at k
  | .dic _ _, _, _, _, k, _ => by simp [isK] at k
  | .opq _, _, _, _, k, _ => by simp [isK] at k
theorem SdL.nis (I : L2.Inv X pins σ H s) : ∀ (ds : List D) (vs : List V) (us : List Value), SdL G R H ds vs → isKL ds = true → Vals vs us → NestedAll s.heap (nkL ds) us
  | [], _, us, h, _, r => by
    rw [show _ = [] from h] at r
    cases r
    exact .nil
  | d :: ds, _, us, h, k, r => by
    obtain ⟨v, vr, rfl, h1, h2⟩ := h
    simp only [isKL, Bool.and_eq_true] at k
    cases r with
    | cons r1 r2 => exact .cons (Sd.nis I d v _ h1 k.1 r1) (SdL.nis I ds vr _ h2 k.2 r2)
end
theorem keyOk_tup {d : D} (h : keyOk d = true) : ∃ ds, d = .tup ds ∧ isK d = true ∧ (nk d).depth ≤ 8 := by
  unfold keyOk at h
  split at h
  · rw [Bool.and_eq_true, decide_eq_true_eq] at h
    exact ⟨_, rfl, by simpa [isK] using h.1, h.2⟩
  · cases h
/-- a key as the library's dicts take it -/
theorem key_is (I : L2.Inv X pins σ H s) {d : D} {v : V} (h : Sd G R H d v) (k : keyOk d = true) : ∃ a, v = .ref a ∧ (nestedKind X.prog X.w).is s.heap (nk d) a := by
  obtain ⟨ds, rfl, k1, k2⟩ := keyOk_tup k
  obtain ⟨a, vs, rfl, _⟩ := id h
  exact ⟨a, rfl, Sd.nis I _ _ _ h k1 rfl, k2⟩
theorem keys_are (I : L2.Inv X pins σ H s) : ∀ {ks : List D} {xs : List (NestedKey × Addr × Value)}, SdL G R H ks (xs.map fun x => V.ref x.2.1) → ks.all keyOk = true → nkL ks = xs.map (·.1) → ∀ x ∈ xs, (nestedKind X.prog X.w).is s.heap x.1 x.2.1
  | [], xs, _, _, e, x, hx => by
    cases xs with
    | nil => cases hx
    | cons _ _ => cases e
  | d :: ks, xs, h, k, e, x, hx => by
    cases xs with
    | nil => cases e
    | cons y ys =>
      obtain ⟨v, vr, e', h1, h2⟩ := h
      simp only [List.map_cons, List.cons.injEq] at e'
      simp only [nkL, List.map_cons, List.cons.injEq] at e
      rw [List.all_cons, Bool.and_eq_true] at k
      rcases List.mem_cons.mp hx with z | z
      · subst z
        obtain ⟨a, ea, q⟩ := key_is I h1 k.1
        rw [← e'.1] at ea
        cases ea
        rw [e.1] at q
        exact q
      · exact keys_are I (xs := ys) (by rw [e'.2]; exact h2) k.2 e.2 x z
/-- a dict as the library tells it -/
theorem dic_of (I : L2.Inv X pins σ H s) (hG : G.prog = X.prog ∧ G.w = X.w) {ks ws : List D} {v : V} (h : Sd G R H (.dic ks ws) v) :
    ∃ a xs vws, v = .ref a ∧ (a == sysModules) = false ∧ s.heap.DictOfH (nestedKind X.prog X.w) a xs ∧ nkL ks = xs.map (·.1) ∧ SdL G R H ks (xs.map fun x => V.ref x.2.1) ∧ SdL G R H ws vws ∧ Vals vws (xs.map (·.2.2)) ∧ xs.length ≤ sizeLine := by
  obtain ⟨a, o, es, ep, xs, vws, rfl, hm, ha, hr, ho, hd, he, hn, hz, hk, hko, h1, h2, h3⟩ := h
  rw [hG.1, hG.2] at he
  obtain ⟨e, _⟩ := (show ObjOk X.prog X.w H s.heap a (.ext _) from I.hok a _ ha)
  exact ⟨a, xs, vws, rfl, hm, ⟨o, es, ep, e, ho, hd, he, keys_are I h1 hko hk, hn⟩, hk, h1, h2, h3, hz⟩
theorem atKey_mem {xs : List (NestedKey × Addr × Value)} {k : NestedKey} : (atKey xs k).isSome = decide (k ∈ xs.map (·.1)) := by
  unfold atKey
  rw [Option.isSome_map, Bool.eq_iff_iff, List.find?_isSome, decide_eq_true_eq]
  constructor
  · rintro ⟨x, hx, e⟩
    rw [← of_decide_eq_true e]
    exact List.mem_map.mpr ⟨x, hx, rfl⟩
  · intro h
    obtain ⟨x, hx, e⟩ := List.mem_map.mp h
    exact ⟨x, hx, decide_eq_true e⟩
/-! ### in -/
def hasK (ks : List D) (k : D) : Bool := decide (nk k ∈ nkL ks)
def gInD (neg : Bool) : D → D → Option D
  | k, .dic ks _ => if keyOk k then some (.bl (if neg then !hasK ks k else hasK ks k)) else none
  | _, _ => none
theorem o_ind {k : Nat} (hr : Room k X.A) (hG : G.prog = X.prog ∧ G.w = X.w) : OpR X (compareOp .In) (rD G (gInD false)) := by
  intro pins s σ H x y v u Q I rx ry h
  obtain ⟨R, a, b, d, hn, sa, sb, e, q⟩ := h
  unfold gInD at e
  split at e
  · split at e
    · rename_i hk
      cases e
      obtain ⟨ka, rfl, kis⟩ := key_is I sa hk
      obtain ⟨da, xs, vws, rfl, hm, dd, he, _⟩ := dic_of I hG sb
      cases rx
      cases ry
      have hu := hr.un
      refine wpAny_in_heap (knd := nestedKind X.prog X.w) (show X.A.units + 1 + 8 < cLine by omega) kis hm dd ⟨.bl _, H, I.tok _, rfl, ?_⟩
      rw [atKey_mem, ← he]
      exact q _ H (Same.refl _) rfl
    · cases e
  · cases e
theorem o_notind {k : Nat} (hr : Room k X.A) (hG : G.prog = X.prog ∧ G.w = X.w) : OpR X (compareOp .NotIn) (rD G (gInD true)) := by
  intro pins s σ H x y v u Q I rx ry h
  obtain ⟨R, a, b, d, hn, sa, sb, e, q⟩ := h
  unfold gInD at e
  split at e
  · split at e
    · rename_i hk
      cases e
      obtain ⟨ka, rfl, kis⟩ := key_is I sa hk
      obtain ⟨da, xs, vws, rfl, hm, dd, he, _⟩ := dic_of I hG sb
      cases rx
      cases ry
      have hu := hr.un
      refine PyProof.Rows.wpAny_notIn_heap (knd := nestedKind X.prog X.w) (show X.A.units + 1 + 8 < cLine by omega) kis hm dd ⟨.bl _, H, I.tok _, rfl, ?_⟩
      rw [atKey_mem, ← he]
      exact q _ H (Same.refl _) rfl
    · cases e
  · cases e
/-! ### list(d), list(d.values()) -/
theorem vals_at {us : List Value} {vs : List V} {acc : List Value} (h : Vals vs us) (hl : acc.length = us.length) (e : ∀ (i : Nat) (v : Value), acc[i]? = some v → us[i]? = some v) : Vals vs acc := by
  have : acc = us := by
    apply List.ext_getElem?
    intro i
    cases hi : acc[i]? with
    | none =>
      have := List.getElem?_eq_none_iff.mp hi
      rw [List.getElem?_eq_none (by omega)]
    | some v => rw [e i v hi]
  rw [this]
  exact h
def gListD : List D → Option D
  | [.dic ks _] => some (.lst ks)
  | _ => none
theorem b_listD (hc : X.calm = true) (hG : G.prog = X.prog ∧ G.w = X.w) : CallR X (.type "list") (cD G gListD) := by
  intro pins s σ H xs us Q I r h
  obtain ⟨R, ds, d, hn, sa, e, q⟩ := h
  unfold gListD at e
  split at e
  · cases e
    obtain ⟨v, rfl, sv⟩ := one_of sa
    obtain ⟨a, xs, vws, rfl, hm, dd, he, h1, h2, h3, hz⟩ := dic_of I hG sv
    obtain ⟨u, rfl, rx⟩ := vals1 r
    cases rx
    obtain ⟨es, ep, hraw, hsz, hent⟩ := dd.raw
    refine PySem.W.kdl_call (KdlSrc.rawDict hm) (I.ok.hd hc) hraw (by rw [hsz]; exact hz) fun h' tk acc' c' kp eo it => ?_
    have rv : Vals (xs.map fun x => V.ref x.2.1) acc'.toList := by
      refine vals_at (us := xs.map fun x => Value.ref x.2.1) ?_ (by rw [Array.length_toList, it.1, hsz, List.length_map]) fun i v hi => ?_
      · have := vals_refs (xs.map fun x => x.2.1)
        rw [List.map_map, List.map_map] at this
        exact this
      · obtain ⟨hi', ev⟩ := it.2 i v (by rw [← Array.getElem?_toList]; exact hi)
        obtain ⟨y, hy, e1, _⟩ := hent i hi'
        rw [List.getElem?_map, hy, ev, e1]
        rfl
    refine ⟨.ref s.heap.objs.size, _, I.laid (t' := tk) (o := .lst (xs.map fun x => V.ref x.2.1)) kp (Nat.le_refl _) ?_, rfl, q _ _ (ext_upd (I.hok.fresh (Nat.le_refl _))) ⟨_, _, rfl, upd_same, hn _ (I.hok.fresh (Nat.le_refl _)), h1.ext (ext_upd (I.hok.fresh (Nat.le_refl _)))⟩⟩
    exact ⟨by rw [List.length_map]; exact hz, acc'.toList, c', rv, by rw [Array.toArray_toList]; exact eo⟩
  · cases e
def dListV (f : TD) : TD := fun ρ => match f ρ with
  | some (.dic _ ws, ρ') => some (.lst ws, ρ')
  | _ => none
theorem vlistv {own : List Nat} {e : Expr} {f : TD} {p pos cpos apos : Pos} (hc : X.calm = true) (hG : G.prog = X.prog ∧ G.w = X.w) (hg : Gl X "list") (hm : X.mg "list" = none) (h : PE X e (tD G own f)) (hbase : attributeBase e "values" X.env (eval e X.env) = eval e X.env := by rfl) (hline : (apos.endLine == cpos.line) = true := by rfl)
    (na : starEach [.Call (.Attribute e "values" apos) [] [] cpos] X.env = (false, eval (.Call (.Attribute e "values" apos) [] [] cpos) X.env) :: starEach [] X.env := by rfl) :
    PE X (.Call (.Name "list" p) [.Call (.Attribute e "values" apos) [] [] cpos] [] pos) (tD G own (dListV f)) := by
  refine ⟨fun pins s σ H Q I w => ?_⟩
  obtain ⟨B, ρ, d, ρ', E, e1, q⟩ := w
  unfold dListV at e1
  split at e1
  · rename_i ks ws ρ1 ef
    cases e1
    refine Call_ (ld_blt I hg hm boot_list (PyProof.Rows.callWith_type1 (args_cons ?_ na) na rfl))
    refine wpAny_Call_method (T := "dict") (id := "dict.values") hbase rfl hline PySem.F.plainAttrs_dict PySem.F.slot_dict_values PySem.F.type_dict_values (thn (h.run pins s σ H _ I ⟨B, ρ, _, _, E, ef, fun v H1 E1 k1 s1 => (show (fun v H1 => EnvOk G B own ρ' σ H1 ∧ KS own σ H own σ H1 ∧ Sd G (RS B own σ) H1 (.dic ks ws) v) v H1 from ⟨E1, k1, s1⟩)⟩) fun u s1 ⟨v, H1, I1, rx, E1, k1, sv⟩ => ?_)
    obtain ⟨a, xs, vws, rfl, hsm, dd, he, h1, h2, h3, hz⟩ := dic_of I1 hG sv
    obtain rfl : u = Value.ref a := rx
    obtain ⟨es, ep, hraw, hsz, hent⟩ := dd.raw
    refine ⟨hraw.typeIs, fun b z => ?_, ?_⟩
    · cases z
      obtain ⟨o, ho, hx, _⟩ := hraw
      exact ⟨o, ho, hx.2.1⟩
    have I2 : L2.Inv X pins σ H1 { s1 with heap := s1.heap.push { cls := .type "dict_values", data := .fields #[.ref a] } } := I1.kept (t' := s1.toks) fun b ob q => Heap.get?_push_of_some _ q
    have fin : wpAny (model X.prog X.w) X.A (call (.type "list") [.ref s1.heap.objs.size]) (EP X pins σ Q) X.xe { s1 with heap := s1.heap.push { cls := .type "dict_values", data := .fields #[.ref a] } } := by
      refine PySem.W.kdl_call (KdlSrc.rawValues (r := s1.heap.objs.size) (d := a) (es := es) (ep := ep)) (I2.ok.hd hc) ⟨⟨_, Heap.get?_push_size _ rfl, rfl, rfl⟩, hraw.at fun o q => Heap.get?_push_of_some _ q⟩ (by rw [hsz]; exact hz) fun h' tk acc' c' kp eo it => ?_
      have rv : Vals vws acc'.toList := by
        refine vals_at h3 (by rw [Array.length_toList, it.1, hsz, List.length_map]) fun i v hi => ?_
        obtain ⟨hi', ev⟩ := it.2 i v (by rw [← Array.getElem?_toList]; exact hi)
        obtain ⟨y, hy, _, e2, _⟩ := hent i hi'
        rw [List.getElem?_map, hy, ev, e2]
        rfl
      have fr := I2.hok.fresh (Nat.le_refl (s1.heap.push { cls := .type "dict_values", data := .fields #[.ref a] }).objs.size)
      refine ⟨.ref _, _, I2.laid (t' := tk) (o := .lst vws) kp (Nat.le_refl _) ?_, rfl, q _ _ (E1.ext (ext_upd fr)) (k1.trans (KS.ext (ext_upd fr))) ⟨_, _, rfl, upd_same, E1.new _ fr, h2.ext (ext_upd fr)⟩⟩
      refine ⟨?_, acc'.toList, c', rv, by rw [Array.toArray_toList]; exact eo⟩
      have := h3.length
      rw [List.length_map] at this
      omega
    show wpAny _ _ (callWith cpos (.builtin "dict.values") [.ref a] [] []) _ X.xe s1
    exact method_meetsIn PySem.F.slot_dict_values PySem.F.entry_dict_values rfl (PySem.evalArgs_none ⟨rfl, hraw.typeIs, PySem.F.args_dict_values_1 _, _, meets_dict_values_raw a hsm, ⟨es, ep, hraw⟩, args_nil fin⟩)
  · cases e1
end
end DL
end
section
set_option Elab.async false
set_option linter.all false
set_option maxRecDepth 100000
set_option autoImplicit false
/-! The data layer: {key: value for target in iter}, the keys tuples. -/
namespace DL
open PySem PySem.Spec
open PyProof.Rows hiding St
open L2

/-- the object of a dict with the entries xs -/
def DO (P : Program) (w : World) (o : Obj) (xs : List (NestedKey × Addr × Value)) : Prop := o.ExactDict ∧ (∃ es ep, o.data = .dict es ep ∧ es.toList = xs.map (entryOfKey (nestedKind P w))) ∧ (xs.map (·.1)).Nodup
abbrev nilO : Obj := { cls := .type "dict", data := .dict #[] }
abbrev exO (a : Addr) (o : Obj) : HO := .ext fun h => h.get? a = some o
theorem DO.nil {P : Program} {w : World} : DO P w nilO [] := ⟨⟨rfl, rfl, rfl⟩, ⟨#[], _, rfl, rfl⟩, List.nodup_nil⟩

/-- a turn's end: the key y, the value z come into the dict at a -/
def Put (P : Program) (w : World) (a : Addr) (y z : V) (H : Hp) (N : Hp → Prop) : Prop :=
  ∃ (G : Gp) (R : Addr → Prop) (o : Obj) (ks : List D) (xs : List (NestedKey × Addr × Value)) (dk : D) (ka : Addr), (G.prog = P ∧ G.w = w) ∧ H a = some (exO a o) ∧ DO P w o xs ∧ xs.length < sizeLine ∧ SdL G R H ks (xs.map fun x => V.ref x.2.1) ∧ ks.all keyOk = true ∧ nkL ks = xs.map (·.1) ∧
    Sd G R H dk y ∧ keyOk dk = true ∧ y = .ref ka ∧ ∀ zv o', RelV z zv → DO P w o' (storedH xs (nk dk) ka zv) → N (upd H a (exO a o'))
theorem put_set {X : Cx} {k : Nat} (hr : Room k X.A) {pins : List (Addr × Obj)} {σ : St} {H : Hp} {s : Shared} {E : Value → Shared → Prop} {a : Addr} {y z : V} {u r : Value} {Q : Unit → Shared → Prop} {N : Hp → Prop} (I : L2.Inv X pins σ H s) (ry : RelV y u) (rz : RelV z r) (p : Put X.prog X.w a y z H N)
    (q : ∀ s' H', L2.Inv X pins σ H' s' → N H' → Q () s') : wpAny (model X.prog X.w) X.A (dictSet a u r) Q E s := by
  obtain ⟨G, R, o, ks, xs, dk, ka, hG, ha, ⟨ho, ⟨es, ep, hd, he⟩, hn⟩, hz, sk, ko, ek, sy, kk, rfl, fin⟩ := p
  cases ry
  obtain ⟨ho2, _⟩ := (show ObjOk X.prog X.w H s.heap a (.ext _) from I.hok a _ ha)
  obtain ⟨ka', e1, kis⟩ := key_is I sy kk
  cases e1
  have hu := hr.un
  have dd : s.heap.DictOfH (nestedKind X.prog X.w) a xs := ⟨o, es, ep, ho2, ho, hd, he, keys_are I sk ko ek, hn⟩
  refine wpAny_dictSet_heap (knd := nestedKind X.prog X.w) (show X.A.units + 8 < cLine by omega) kis dd (fun h' hm' hs => ?_) (Nat.le_of_lt hz)
  obtain ⟨o', es', ep', g1, g2, g3, g4, _, g6⟩ := hm'
  exact q _ _ (d_write I (by rw [ha]; exact True.intro) hs ⟨_, g1⟩ (show ObjOk X.prog X.w _ h' a (exO a o') from ⟨g1, ⟨_, g1⟩, fun h1 h2 p1 p2 => p2 _ p1⟩)) (fin r o' rz ⟨g2, ⟨es', ep', g3, g4⟩, g6⟩)

section
variable {X : Cx}
def tDx (P : Program) (w : World) (wi : TI) (g : TG) (tk tv : TE) (vs : List Nat) : TE := fun σ H Q => wi σ H fun J H1 => ∀ a, H1 a = none → (a == sysModules) = false → ∃ W : Nat → Nat → Hp → Prop, (∃ m, W 0 m (upd H1 a (exO a nilO))) ∧ ∀ i m H, W i m H →
  (J.stop i H ∧ Q (.ref a) H) ∨ (J.go i H ∧ ∃ N : Hp → Prop, (∀ H', N H' → ∃ m', m' < m ∧ W (i + 1) m' H') ∧ ∀ x H', J.yld i H x H' → g x (wipe σ vs) H' fun σ2 H2 => wipe σ2 vs = wipe σ vs ∧
    tk σ2 H2 fun y H3 => tv σ2 H3 fun z H4 => Put P w a y z H4 N)
theorem pe_dx {k : Nat} {kx vx tg iter : Expr} {scope : Scope} {ow : List (Str × Nat)} {pos : Pos} {wi : TI} {g : TG} {tk tv : TE} (hr : Room k X.A) (hc : X.calm = true) (hN : X.N.Nodup) (hi : PI X tg iter wi) (ok : BlkOk X.N X.env.scope scope ow)
    (hg : ∀ (s : Shared) (H : Hp) (C : Addr) (cl : List (Str × Addr)) (fp : List Addr), PG (X.blk s H scope (compEnvC scope cl C X.env) fp) tg g)
    (hk : ∀ (s : Shared) (H : Hp) (C : Addr) (cl : List (Str × Addr)) (fp : List Addr), PE (X.blk s H scope (compEnvC scope cl C X.env) fp) kx tk)
    (hv : ∀ (s : Shared) (H : Hp) (C : Addr) (cl : List (Str × Addr)) (fp : List Addr), PE (X.blk s H scope (compEnvC scope cl C X.env) fp) vx tv) (hs : ∀ x, foldedSetIterable iter X.env x = pure x := by intro _; rfl) :
    PE X (.DictComp kx vx [⟨tg, iter, [], 0⟩] scope pos) (tDx X.prog X.w wi g tk tv (ow.map (·.2))) := by
  refine ⟨fun pins s σ H Q I w => ?_⟩
  rw [arm_eval_DictComp]
  have fr : ∀ y ∈ scope.names, y.2 = .free → ∃ c, X.env.cells.lookup y.1 = some c := fun y hy e => (ok.free y hy e).elim (fun z => I.ok.has _ (.inl z)) fun z => I.ok.has _ (.inr z)
  refine wpAny_comprehension_free (use := none) rfl hs (closure_ok fr) ok.kind (fun y hy e => by rw [ok.uniq y hy, e]) (thn (hi.run pins s σ H _ I w) fun xv s1 hx => thn hx fun itv s2 h2 => ?_)
  obtain ⟨it, fp, tn, J, H2, rfl, I2, T, t2, f2, rd⟩ := h2
  refine wpAny_newObj_type (newEnv_comp ?_)
  -- the new dict at a
  obtain ⟨a, ea⟩ : ∃ a, a = s2.heap.objs.size := ⟨_, rfl⟩
  have an : H2 a = none := I2.hok.fresh (Nat.le_of_eq ea.symm)
  have am : (a == sysModules) = false := by
    rw [ea]
    exact beq_eq_false_iff_ne.mpr (Nat.ne_of_gt I2.big)
  obtain ⟨W, ⟨m0, w0⟩, turn⟩ := rd a an am
  obtain ⟨s3, es3⟩ : ∃ s3 : Shared, s3 = { s2 with heap := s2.heap.push { cls := .type "dict", data := .dict #[] } } := ⟨_, rfl⟩
  obtain ⟨H3, eH3⟩ : ∃ H3, H3 = upd H2 a (exO a nilO) := ⟨_, rfl⟩
  have grow : ∀ b o, s2.heap.get? b = some o → s3.heap.get? b = some o := fun b o e => by rw [es3]; exact Heap.get?_push_of_some _ e
  have I3 : L2.Inv X pins σ H3 s3 := by
    rw [eH3, es3]
    have at_ : (s2.heap.push { cls := .type "dict", data := .dict #[] }).get? a = some nilO := by rw [ea]; exact Heap.get?_push_size _ rfl
    exact I2.laid (t' := s2.toks) (fun b o e => Heap.get?_push_of_some _ e) (Nat.le_of_eq ea.symm) ⟨at_, ⟨_, at_⟩, fun h1 h2 p q => q _ p⟩
  have szs : s3.heap.objs.size = s2.heap.objs.size + 1 := by rw [es3]; exact Heap.size_push ..
  have lt2 : ∀ b ∈ fp, b < s2.heap.objs.size := fun b hb => let ⟨o, e, _⟩ := T.obj _ _ t2 b hb; Heap.lt_size e
  have nfp : ∀ b ∈ fp, H3 b = none := fun b hb => by
    rw [eH3, upd_ne (by rw [ea]; exact Nat.ne_of_lt (lt2 b hb))]
    exact (f2 b hb).1
  have f3 : ∀ b ∈ fp, FpOk X pins H3 b ∧ b < s3.heap.objs.size := fun b hb => ⟨⟨nfp b hb, (f2 b hb).2⟩, by rw [szs]; exact Nat.lt_succ_of_lt (lt2 b hb)⟩
  have I4 := block_start I3 ok hN f3
  have t3 : tn 0 s3.heap := T.keep _ _ _ t2 fun b _ o e => grow b o e
  rw [← es3]
  obtain ⟨ce, ece⟩ : ∃ ce, ce = compEnvC scope (cellsFrom (s3.heap.objs.size + 1) scope.names (cloFrom X.env.cells scope.names [])) s3.heap.objs.size X.env := ⟨_, rfl⟩
  have pg := hg s3 H3 s3.heap.objs.size (cellsFrom (s3.heap.objs.size + 1) scope.names (cloFrom X.env.cells scope.names [])) fp
  have pk := hk s3 H3 s3.heap.objs.size (cellsFrom (s3.heap.objs.size + 1) scope.names (cloFrom X.env.cells scope.names [])) fp
  have pv := hv s3 H3 s3.heap.objs.size (cellsFrom (s3.heap.objs.size + 1) scope.names (cloFrom X.env.cells scope.names [])) fp
  rw [← ece] at I4 pg pk pv
  have cL : ce.locals = s3.heap.objs.size := by rw [ece]; rfl
  obtain ⟨s4, es4⟩ : ∃ s4 : Shared, s4 = { s3 with heap := pushCells (s3.heap.push { cls := .type "dict", data := .dict #[] }) scope.names } := ⟨_, rfl⟩
  rw [← es4] at I4
  have t4 : tn 0 s4.heap := T.keep _ _ _ t3 fun b _ o e => by rw [es4]; exact pushCells_keeps _ _ _ _ (Heap.get?_push_of_some _ e)
  suffices go : codeAny (model X.prog X.w) X.A (.compLoop (.DictComp kx vx [⟨tg, iter, [], 0⟩] scope pos) 0 (.ref it) (.ref a) ce) (compPost (model X.prog X.w) X.A X.xe none (EP X pins σ Q) (.ref a) s3.heap.objs.size) s4 by
    have q := codeAny_compStart_dict go (T.self X.A 0 _ _ _ t4 go)
    rw [ece, es4, ea] at q
    exact q
  have stay : ∀ {σ' : St} {H' : Hp} {s' : Shared}, L2.Inv (X.blk s3 H3 scope ce fp) [] σ' H' s' → (∀ b ∈ fp, H' b = none) → ∀ b ∈ fp, FpOk (X.blk s3 H3 scope ce fp) [] H' b := fun {σ' H' s'} I' hn b hb =>
    ⟨hn b hb, (I'.ok.exf b hb).1, I'.ok.exfs b hb, .inl hb, fun x c e => (I'.ok.exf b hb).2 x c e, fun p hp => absurd (show p ∈ ([] : List (Addr × Obj)) ++ [] from hp) (by simp)⟩
  rw [← eH3] at w0
  refine compLoop_anyD (fun n s' => ∃ i H', L2.Inv (X.blk s3 H3 scope ce fp) [] (wipe σ (ow.map (·.2))) H' s' ∧ tn i s'.heap ∧ (∀ b ∈ fp, H' b = none) ∧ W i n H') ?_ m0 ⟨0, H3, I4, t4, nfp, w0⟩
  rintro n s5 ⟨i, H5, I5, t5, n5, w5⟩
  rcases turn i n H5 w5 with ⟨halt, qq⟩ | ⟨more, N, hNN, each⟩
  · refine thnF (T.done (X.blk s3 H3 scope ce fp) rfl rfl rfl hc i [] s5 _ H5 (fun _ _ => False) I5 (stay I5 n5) t5 halt) fun r s6 ⟨er, I6⟩ => ?_
    subst er
    have I7 : L2.Inv X pins σ H5 s6 := I3.call' (ch := fp) I6.os I6.base I6.hok I6.bare fun b hb => ⟨(f3 b hb).1.2.2.2.1, (f3 b hb).1.2.1, (f3 b hb).1.2.2.2.2.1, (f3 b hb).1.2.2.2.2.2⟩
    have fC : H5 s3.heap.objs.size = none := by rw [← cL]; exact I6.free
    obtain ⟨m, hm, _⟩ := I6.loc
    have hm' : s6.heap.Ns s3.heap.objs.size m := by rw [← cL]; exact hm
    obtain ⟨g0, g1, g2, g3, g4, g5⟩ := I3.fpOk (H' := H5) (Nat.le_refl s3.heap.objs.size) fC
    exact ⟨m, hm', fun h7 sb => ⟨.ref a, H5, I7.turned (t' := s6.toks) (fun b o hb e => (sb.2 b hb).trans e) g0 g1 g3 g4 g5, rfl, qq⟩⟩
  · refine thnF (T.item (X.blk s3 H3 scope ce fp) rfl rfl rfl hc i [] s5 _ H5 (fun _ _ => False) I5 (stay I5 n5) t5 more) fun r s6 ⟨u, er, h6⟩ => ?_
    subst er
    refine thnF h6 fun _ s7 ⟨x, H7, I7, r7, y7, t7, n7⟩ => ?_
    have I7p := I7.pinned (stay I7 n7) (T.obj _ _ t7)
    refine thnF (pg.run _ s7 _ H7 x u _ I7p r7 (each x H7 y7)) fun _ s8 ⟨σ8, H8, I8, e8, q8⟩ => ?_
    refine wpAny_tests_nil ?_
    rw [if_pos rfl]
    refine thnF (pk.run _ s8 σ8 H8 _ I8 q8) fun kv s9 ⟨y, H9, I9, r9, q9⟩ => thnF (pv.run _ s9 σ8 H9 _ I9 q9) fun vv s10 ⟨z, H10, I10, r10, q10⟩ => ?_
    refine put_set (X := X.blk s3 H3 scope ce fp) hr I10 r9 r10 q10 fun s11 H11 I11 q11 => ?_
    obtain ⟨m', hm, w'⟩ := hNN H11 q11
    have pin : ∀ b ∈ fp, ∀ o, s7.heap.get? b = some o → s11.heap.get? b = some o ∧ H11 b = none := fun b hb o e =>
      let z := I11.pin (b, o) (List.mem_append_right _ (List.mem_append_right _ (mem_pinsAt hb e)))
      ⟨z.1, z.2.1⟩
    refine ⟨m', hm, i + 1, H11, (I11.unpinned (pins := [])).weak (by rw [← e8, wipe_length]) (fun j v e => ?_), T.keep _ _ _ t7 fun b hb o e => (pin b hb o e).1, fun b hb => ?_, w'⟩
    · rw [← e8] at e
      exact (wipe_some e).1
    · obtain ⟨o, e, _⟩ := T.obj _ _ t7 b hb
      exact (pin b hb o e).2
end
end DL
end
section
set_option Elab.async false
set_option linter.all false
set_option maxRecDepth 100000
set_option autoImplicit false
/-! The data layer: dict comprehensions as plain data. -/
namespace DL
open PySem PySem.Spec
open PyProof.Rows hiding St
open L2

def putK (ks : List D) (k : D) : List D := if hasK ks k = true then ks else ks ++ [k]
def putW (ks ws : List D) (k z : D) : List D := if hasK ks k = true then List.zipWith (fun k' w => if nk k' = nk k then z else w) ks ws else ws ++ [z]
def dcL (vs : List Nat) (g : GD) (fk fv : TD) : List D → List D → List D → DE → Option ((List D × List D) × DE)
  | [], ks, ws, ρ => some ((ks, ws), ρ)
  | d :: ds, ks, ws, ρ => (g d ρ).bind fun ρ1 => (fk ρ1).bind fun p => (fv p.2).bind fun q => if keyOk p.1 = true then dcL vs g fk fv ds (putK ks p.1) (putW ks ws p.1 q.1) (wipeD q.2 vs) else none
def dDc (own vs : List Nat) (it : LD) (g : GD) (fk fv : TD) : TD := fun ρ => (it ρ).bind fun p => if p.1.length < sizeLine then (dcL vs g fk fv p.1 [] [] (wipeD p.2 vs)).map fun q => (.dic q.1.1 q.1.2, mixD own p.2 q.2) else none
theorem nkL_append : ∀ (a b : List D), nkL (a ++ b) = nkL a ++ nkL b
  | [], _ => rfl
  | x :: a, b => by
    show nk x :: nkL (a ++ b) = nk x :: nkL a ++ nkL b
    rw [nkL_append a b]
    rfl
section
variable {G : Gp} {R : Addr → Prop} {H : Hp}
theorem put_vals {k : NestedKey} {z : D} {zV : V} {zv : Value} (sz : Sd G R H z zV) (rz : RelV zV zv) : ∀ (ks : List D) (xs : List (NestedKey × Addr × Value)) (ws : List D) (vws : List V), nkL ks = xs.map (·.1) → SdL G R H ws vws → Vals vws (xs.map (·.2.2)) →
    ∃ vws', SdL G R H (List.zipWith (fun k' w => if nk k' = k then z else w) ks ws) vws' ∧ Vals vws' ((xs.map (putAt k zv)).map (·.2.2))
  | [], xs, ws, vws, e, s, r => by
    cases xs with
    | nil => exact ⟨[], rfl, .nil⟩
    | cons _ _ => cases e
  | k' :: ks, xs, ws, vws, e, s, r => by
    cases xs with
    | nil => cases e
    | cons x xs =>
      simp only [nkL, List.map_cons, List.cons.injEq] at e
      cases vws with
      | nil => cases r
      | cons v vws =>
        cases r with
        | cons r1 r2 =>
          cases ws with
          | nil => cases (show v :: vws = [] from s)
          | cons w ws =>
            obtain ⟨v', vr', e2, s1, s2⟩ := s
            cases e2
            obtain ⟨vws', q1, q2⟩ := put_vals sz rz ks xs ws vws e.2 s2 r2
            rw [List.zipWith_cons_cons, List.map_cons, List.map_cons]
            by_cases h : nk k' = k
            · rw [if_pos h]
              refine ⟨zV :: vws', ⟨zV, vws', rfl, sz, q1⟩, .cons ?_ q2⟩
              have h2 : x.1 = k := by rw [← e.1]; exact h
              unfold putAt
              rw [if_pos h2]
              exact rz
            · rw [if_neg h]
              refine ⟨v :: vws', ⟨v, vws', rfl, s1, q1⟩, .cons ?_ q2⟩
              have h2 : ¬ x.1 = k := by rw [← e.1]; exact h
              unfold putAt
              rw [if_neg h2]
              exact r1
theorem map_putAt_addr (xs : List (NestedKey × Addr × Value)) (k : NestedKey) (v : Value) : (xs.map (putAt k v)).map (fun x => V.ref x.2.1) = xs.map fun x => V.ref x.2.1 := by
  rw [List.map_map]
  apply List.map_congr_left
  intro x _
  show V.ref (putAt k v x).2.1 = V.ref x.2.1
  unfold putAt
  split <;> rfl
theorem put_data {ks ws : List D} {xs : List (NestedKey × Addr × Value)} {vws : List V} {dk z : D} {ka : Addr} {zV : V} {zv : Value} (ek : nkL ks = xs.map (·.1)) (ko : ks.all keyOk = true) (sk : SdL G R H ks (xs.map fun x => V.ref x.2.1)) (sw : SdL G R H ws vws) (rw_ : Vals vws (xs.map (·.2.2)))
    (kk : keyOk dk = true) (sy : Sd G R H dk (.ref ka)) (sz : Sd G R H z zV) (rz : RelV zV zv) :
    nkL (putK ks dk) = (storedH xs (nk dk) ka zv).map (·.1) ∧ (putK ks dk).all keyOk = true ∧ SdL G R H (putK ks dk) ((storedH xs (nk dk) ka zv).map fun x => V.ref x.2.1) ∧
      (∃ vws', SdL G R H (putW ks ws dk z) vws' ∧ Vals vws' ((storedH xs (nk dk) ka zv).map (·.2.2))) ∧ (storedH xs (nk dk) ka zv).length ≤ xs.length + 1 := by
  unfold putK putW
  have e0 : (atKey xs (nk dk)).isSome = hasK ks dk := by rw [atKey_mem, ← ek]; rfl
  cases hb : hasK ks dk with
  | true =>
    rw [hb] at e0
    have es : storedH xs (nk dk) ka zv = xs.map (putAt (nk dk) zv) := by
      unfold storedH
      rw [if_pos e0]
    rw [es, if_pos rfl, if_pos rfl]
    refine ⟨by rw [keys_map_putAt]; exact ek, ko, by rw [map_putAt_addr]; exact sk, put_vals sz rz ks xs ws vws ek sw rw_, by rw [List.length_map]; exact Nat.le_succ _⟩
  | false =>
    rw [hb] at e0
    have es : storedH xs (nk dk) ka zv = xs ++ [(nk dk, ka, zv)] := by
      unfold storedH
      rw [if_neg (by rw [e0]; exact Bool.false_ne_true)]
    rw [es, if_neg Bool.false_ne_true, if_neg Bool.false_ne_true]
    refine ⟨by rw [nkL_append, ek, List.map_append]; rfl, by rw [List.all_append, ko]; simp [kk], ?_, ⟨vws ++ [zV], sw.snoc sz, ?_⟩, by rw [List.length_append]; exact Nat.le_refl _⟩
    · rw [List.map_append]
      exact sk.snoc sy
    · rw [List.map_append]
      exact rw_.append (.cons rz .nil)
end
section
variable {G : Gp} {own ts vs : List Nat}
theorem dc_read {it : LD} {g : GD} {fk fv : TD} {σ : St} {H : Hp} {Q : VK} {n : Nat} (hn : σ.length = n) (hs : ∀ t ∈ ts, t ∈ vs) (hd : ∀ v ∈ vs, v ∉ own) (hv : ∀ v ∈ vs, v < n) (w : tD G own (dDc own vs it g fk fv) σ H Q) :
    tDx G.prog G.w (iD G own it) (gD G own ts g) (tD G own fk) (tD G own fv) vs σ H Q := by
  obtain ⟨B, ρ, d, ρ', E, e, q⟩ := w
  unfold dDc at e
  cases ei : it ρ with
  | none => rw [ei] at e; cases e
  | some p =>
    rw [ei, Option.bind_some] at e
    split at e
    · rename_i hz
      cases el : dcL vs g fk fv p.1 [] [] (wipeD p.2 vs) with
      | none => rw [el] at e; cases e
      | some r =>
        rw [el] at e
        cases e
        refine ⟨B, ρ, p.1, p.2, E, ei, fun J H1 E1 k1 Y a hD am => ?_⟩
        have hlen : p.2.length = n := by rw [E1.len, hn]
        have iow := isOwn_wipe (own := own) (σ := σ) vs hd
        have E2 : EnvOk G (B.more a) own (wipeD p.2 vs) (L2.wipe σ vs) (upd H1 a (exO a nilO)) := (E1.hideNew hD).wipe vs hd fun v h => by rw [hlen]; exact hv v h
        have k2 : KS own σ H1 own (L2.wipe σ vs) (upd H1 a (exO a nilO)) := (KS.ext (ext_upd hD)).trans (KS.same iow)
        have h0 : B.H0 a = none := E1.h0 hD
        refine ⟨fun i m H => m = p.1.length - i ∧ i ≤ p.1.length ∧ ∃ ρi ks ws xs vws o, EnvOk G (B.more a) own ρi (L2.wipe σ vs) H ∧ KS own σ H1 own (L2.wipe σ vs) H ∧ H a = some (exO a o) ∧ DO G.prog G.w o xs ∧ nkL ks = xs.map (·.1) ∧ ks.all keyOk = true ∧
          SdL G (RS (B.more a) own (L2.wipe σ vs)) H ks (xs.map fun x => V.ref x.2.1) ∧ SdL G (RS (B.more a) own (L2.wipe σ vs)) H ws vws ∧ Vals vws (xs.map (·.2.2)) ∧ xs.length ≤ i ∧ dcL vs g fk fv (p.1.drop i) ks ws ρi = some r,
          ⟨p.1.length, rfl, Nat.zero_le _, wipeD p.2 vs, [], [], [], [], nilO, E2, k2, upd_same, DO.nil, rfl, rfl, rfl, rfl, .nil, Nat.le_refl _, by rw [List.drop_zero]; exact el⟩, ?_⟩
        rintro i m H ⟨rfl, hi, ρi, ks, ws, xs, vws, o, Ei, ki, hDi, hdo, ek, ko, sk, sw, rwv, hxl, elc⟩
        have Yi := Y (fun b => B.hid b ∨ b = a) i (L2.wipe σ vs) H (fun b z => z.imp_right fun e => by rw [e]; exact hD) Ei.new ki
        by_cases hlt : i < p.1.length
        · have hdi : p.1[i]? = some p.1[i] := List.getElem?_eq_getElem hlt
          obtain ⟨go, yl⟩ := Yi.2 _ hdi
          rw [List.drop_eq_getElem_cons hlt] at elc
          unfold dcL at elc
          cases e1 : g p.1[i] ρi with
          | none => rw [e1] at elc; cases elc
          | some ρ1 =>
            rw [e1, Option.bind_some] at elc
            cases e2 : fk ρ1 with
            | none => rw [e2] at elc; cases elc
            | some pk =>
              rw [e2, Option.bind_some] at elc
              cases e3 : fv pk.2 with
              | none => rw [e3] at elc; cases elc
              | some pv =>
                rw [e3, Option.bind_some] at elc
                split at elc
                · rename_i hkk
                  refine .inr ⟨go, fun H' => ∃ ρi ks ws xs vws o, EnvOk G (B.more a) own ρi (L2.wipe σ vs) H' ∧ KS own σ H1 own (L2.wipe σ vs) H' ∧ H' a = some (exO a o) ∧ DO G.prog G.w o xs ∧ nkL ks = xs.map (·.1) ∧ ks.all keyOk = true ∧
                    SdL G (RS (B.more a) own (L2.wipe σ vs)) H' ks (xs.map fun x => V.ref x.2.1) ∧ SdL G (RS (B.more a) own (L2.wipe σ vs)) H' ws vws ∧ Vals vws (xs.map (·.2.2)) ∧ xs.length ≤ i + 1 ∧ dcL vs g fk fv (p.1.drop (i + 1)) ks ws ρi = some r,
                    fun H' h => ⟨p.1.length - (i + 1), by omega, rfl, hlt, h⟩, fun x H2 y => ?_⟩
                  obtain ⟨x2, sx⟩ := yl x H2 y
                  refine ⟨B.more a, ρi, _, ρ1, Ei.ext x2, sx, e1, fun σ3 H3 E3 k3 j3 => ⟨wipe_back hs j3.1 j3.2, B.more a, ρ1, pk.1, pk.2, E3, e2, fun y4 H4 E4 k4 s4 => ⟨B.more a, pk.2, pv.1, pv.2, E4, e3, fun z5 H5 E5 k5 s5 => ?_⟩⟩⟩
                  have wb : L2.wipe σ3 vs = L2.wipe σ vs := wipe_back hs j3.1 j3.2
                  have len3 : σ3.length = n := by rw [j3.2, wipe_length, hn]
                  have io3 := isOwn_wipe (own := own) (σ := σ3) vs hd
                  have io : ∀ b, IsOwn own (L2.wipe σ vs) b ↔ IsOwn own σ3 b := fun b => by rw [← wb]; exact io3 b
                  have R3 : RS (B.more a) own (L2.wipe σ vs) = RS (B.more a) own σ3 := rs_congr io
                  have k25 : KS own (L2.wipe σ vs) H own σ3 H5 := (((KS.ext x2).trans k3).trans k4).trans k5
                  have notOwn : ¬ IsOwn own (L2.wipe σ vs) a := fun z => by
                    obtain ⟨us, q⟩ := E1.ownL ((iow a).mp z)
                    rw [hD] at q
                    cases q
                  have hD5 : H5 a = some (exO a o) := (k25 a _ hDi notOwn).1
                  have sk5 := sk.ks Ei k25
                  have sw5 := sw.ks Ei k25
                  have s45 := s4.ks E4 k5
                  obtain ⟨ds, edk, _⟩ := keyOk_tup hkk
                  obtain ⟨ka, eka⟩ : ∃ ka, y4 = .ref ka := by
                    rw [edk] at s45
                    obtain ⟨ka, _, e, _⟩ := s45
                    exact ⟨ka, e⟩
                  refine ⟨G, _, o, ks, xs, pk.1, ka, ⟨rfl, rfl⟩, hD5, hdo, Nat.lt_of_le_of_lt (Nat.le_trans hxl hi) hz, sk5, ko, ek, s45, hkk, eka, fun zv o' rz hdo' => ?_⟩
                  rw [eka] at s45
                  obtain ⟨g1, g2, g3, ⟨vws', g4, g5⟩, g6⟩ := put_data ek ko sk5 sw5 rwv hkk s45 s5 rz
                  have kk : ∀ b u, b ≠ a → H5 b = some u → (upd H5 a (exO a o')) b = some u := fun b u hb q => by rw [upd_ne hb]; exact q
                  have mh := mv_hid (B := B) (own := own) (σ := σ3) kk ⟨_, hD5, rfl⟩
                  have E6 := E5.writeHid (H' := upd H5 a (exO a o')) kk ⟨_, hD5, rfl⟩ ⟨_, upd_same⟩ h0
                  have E7 := E6.wipe vs hd fun v h => by rw [E6.len, len3]; exact hv v h
                  rw [wb] at E7
                  refine ⟨wipeD pv.2 vs, putK ks pk.1, putW ks ws pk.1 pv.1, _, vws', o', E7, ?_, upd_same, hdo', g1, g2, by rw [R3]; exact SdL.mv mh _ _ g3, by rw [R3]; exact SdL.mv mh _ _ g4, g5, by omega, elc⟩
                  intro b u hb nb
                  have hbD : b ≠ a := fun z => by rw [z, hD] at hb; cases hb
                  obtain ⟨q1, q2⟩ := (ki.trans k25) b u hb nb
                  exact ⟨by rw [upd_ne hbD]; exact q1, fun z => q2 ((io b).mp z)⟩
                · cases elc
        · have ei' : i = p.1.length := by omega
          subst ei'
          rw [List.drop_length] at elc
          cases elc
          refine .inl ⟨Yi.1 rfl, ?_⟩
          have kσ : KS own σ H1 own σ H := fun b u hb nb => ⟨(ki b u hb nb).1, nb⟩
          have Em := E1.mix kσ Ei.unhide (show ρi.length = p.2.length by rw [Ei.len, wipe_length, hn, hlen]) fun j hj => wipe_off fun z => hd j z hj
          have RR : RS (B.more a) own (L2.wipe σ vs) = RS (B.more a) own σ := rs_congr iow
          rw [RR] at sk sw
          have up : ∀ b, RS (B.more a) own σ b → RS B own σ b := fun b r => ⟨r.1, r.2.1, fun z => r.2.2 (.inl z)⟩
          obtain ⟨d1, ⟨es, ep, d2, d3⟩, d4⟩ := hdo
          exact q (.ref a) H Em (k1.trans kσ) ⟨a, o, es, ep, xs, vws, rfl, am, hDi, E1.new a hD, d1, d2, d3, d4, by omega, ek, ko, sk.imp up, sw.imp up, rwv⟩
    · cases e
end
section
variable {X : Cx} {G : Gp} {own ts : List Nat}
theorem vdc {k : Nat} {kx vx tg iter : Expr} {scope : Scope} {ow : List (Str × Nat)} {pos : Pos} {it : LD} {g : GD} {fk fv : TD} (hr : Room k X.A) (hG : G.prog = X.prog ∧ G.w = X.w) (hc : X.calm = true) (hN : X.N.Nodup) (hi : PI X tg iter (iD G own it)) (ok : BlkOk X.N X.env.scope scope ow) (hk : lcOk X.N.length own ts (ow.map (·.2)) = true)
    (hg : ∀ (s : Shared) (H : Hp) (C : Addr) (cl : List (Str × Addr)) (fp : List Addr), PG (X.blk s H scope (compEnvC scope cl C X.env) fp) tg (gD G own ts g))
    (hkx : ∀ (s : Shared) (H : Hp) (C : Addr) (cl : List (Str × Addr)) (fp : List Addr), PE (X.blk s H scope (compEnvC scope cl C X.env) fp) kx (tD G own fk))
    (hvx : ∀ (s : Shared) (H : Hp) (C : Addr) (cl : List (Str × Addr)) (fp : List Addr), PE (X.blk s H scope (compEnvC scope cl C X.env) fp) vx (tD G own fv)) (hs : ∀ x, foldedSetIterable iter X.env x = pure x := by intro _; rfl) :
    PE X (.DictComp kx vx [⟨tg, iter, [], 0⟩] scope pos) (tD G own (dDc own (ow.map (·.2)) it g fk fv)) :=
  PE.weakN (pe_dx hr hc hN hi ok hg hkx hvx hs) fun σ H Q hl w => by
    obtain ⟨h1, h2, h3⟩ := lcOk_of hk
    have q := dc_read hl h1 h2 h3 w
    rw [hG.1, hG.2] at q
    exact q
end
end DL
end
section
set_option Elab.async false
set_option linter.all false
set_option maxRecDepth 100000
set_option autoImplicit false
/-! The data layer: the script's cut, unpacking a list, what a def keeps as one statement, calls by it. -/
namespace DL
open PySem PySem.Spec
open PyProof.Rows hiding St
open L2

section
variable {X : Cx} {G : Gp} {own : List Nat} {pos : Pos} {a b c e : Expr} {es rest : List Expr}
/-! ### the script's cut -/
def gSlq (lo hi : Option Int) : D → Option D
  | .opq ns => some (.lst ((cutD ns lo hi).map D.int))
  | _ => none
theorem opq_seq {R : Addr → Prop} {H : Hp} {ns : List Int} {v : V} (h : Sd G R H (.opq ns) v) : ∃ a, v = .ref a ∧ SqL G.K H a (ns.map V.int) := by
  obtain ⟨a, e, ha⟩ := h
  refine ⟨a, e, ?_⟩
  rcases ha with ⟨ha, _⟩ | ⟨o, ha⟩ | ha
  · exact .inl (.inl ha)
  · exact .inl (.inr ⟨o, ha⟩)
  · exact .inr ha
theorem seq_opq {R : Addr → Prop} {H : Hp} {ns : List Int} {a : Addr} (h : SqL G.K H a (ns.map V.int)) (hr : R a) : Sd G R H (.opq ns) (.ref a) := by
  refine ⟨a, rfl, ?_⟩
  rcases h with (h | ⟨o, h⟩) | h
  · exact .inl ⟨h, hr⟩
  · exact .inr (.inl ⟨o, h⟩)
  · exact .inr (.inr h)
def rSlq (G : Gp) : V → Option Int → Option Int → Hp → VK → Prop := fun x lo hi H Q => ∃ R a d, (∀ p, H p = none → R p) ∧ Sd G R H a x ∧ gSlq lo hi a = some d ∧ ∀ v H', Ext H H' → Sd G R H' d v → Q v H'
theorem x_slq (hK : G.K = X.K) : SlR X (rSlq G) := by
  intro pins s σ H x v vl vu lo hi sl Q I rx hs pl pu h
  obtain ⟨R, a, d, hn, sa, e, q⟩ := h
  unfold gSlq at e
  split at e
  · rename_i ns
    cases e
    obtain ⟨p1, rfl, h1⟩ := opq_seq sa
    refine sl_list pins s σ H _ v vl vu lo hi sl Q I rx hs pl pu ⟨p1, _, rfl, by rw [← hK]; exact h1, fun p hp => q _ _ (ext_upd hp) ⟨p, _, rfl, upd_same, hn p hp, ?_⟩⟩
    have : cutV (ns.map V.int) lo hi = (cutD ns lo hi).map V.int := by
      unfold cutV cutD
      rw [List.length_map, List.map_take, List.map_drop]
    rw [this]
    exact ints_sd (fun i => i) _
  · cases e
def dSlq (f : TD) (l u : OD) : TD := fun ρ => (f ρ).bind fun p => (l p.2).bind fun q => (u q.2).bind fun r => (gSlq q.1 r.1 p.1).map fun d => (d, r.2)
theorem vslq (hK : G.K = X.K) {f : TD} {l u : OD} {lo hi : Option Expr} {p2 : Pos} (h : PE X e (tD G own f)) (hl : PO X lo (tO G own l)) (hu : PO X hi (tO G own u)) : PE X (.Subscript e (.Slice lo hi none p2) pos) (tD G own (dSlq f l u)) := PE.weak (pe_slice (x_slq hK) h hl hu) fun σ H Q w => by
  obtain ⟨B, ρ, d, ρ', E, e, q⟩ := w
  unfold dSlq at e
  cases e1 : f ρ with
  | none => rw [e1] at e; cases e
  | some p1 =>
    rw [e1, Option.bind_some] at e
    cases e2 : l p1.2 with
    | none => rw [e2] at e; cases e
    | some p2 =>
      rw [e2, Option.bind_some] at e
      cases e3 : u p2.2 with
      | none => rw [e3] at e; cases e
      | some p3 =>
        rw [e3, Option.bind_some] at e
        cases e4 : gSlq p2.1 p3.1 p1.1 with
        | none => rw [e4] at e; cases e
        | some d' =>
          rw [e4] at e
          cases e
          refine ⟨B, ρ, p1.1, p1.2, E, e1, fun v H1 E1 k1 s1 => ⟨B, p1.2, p2.1, p2.2, E1, e2, fun H2 E2 k2 => ⟨B, p2.2, p3.1, p3.2, E2, e3, fun H3 E3 k3 => ?_⟩⟩⟩
          exact ⟨RS B own σ, p1.1, d, E3.new, s1.ks E1 (k2.trans k3), e4, fun v H4 x4 s4 => q v H4 (E3.ext x4) (((k1.trans k2).trans k3).trans (KS.ext x4)) s4⟩
/-! ### unpacking a list -/
def gTl (n : Nat) (h : GL) : GD := fun d ρ => match d with
  | .lst ds => if ds.length = n then h ds ρ else none
  | _ => none
theorem ttl {k n : Nat} {ts : List Nat} {h : GL} (hc : X.calm = true) (hh : PGs X es (gsD G own ts h)) (hn : (assignEach es X.env).length = n := by rfl) (hst : (assignEach es X.env).findIdx? (·.1) = none := by rfl) : PG X (.Tuple es k pos) (gD G own ts (gTl n h)) := PG.weak (pg_lst hc hh hn hst) fun v σ H Q w => by
  obtain ⟨B, ρ, d, ρ', E, s, e, q⟩ := w
  unfold gTl at e
  split at e
  · split at e
    · rename_i ds hl
      obtain ⟨a, vs, rfl, ha, _, s1⟩ := s
      exact ⟨a, vs, rfl, SqL.of ha, by rw [s1.length, hl], B, ρ, ds, ρ', E, s1, e, q⟩
    · cases e
  · cases e
end

/-! ### what a def keeps -/
section
variable {P : Program} {w : World} {K : PySem.W.Frag} {mg : Str → Option Value} {base : Heap} {G : Gp}
/-- a def that writes nothing that it was handed -/
def OkP (P : Program) (w : World) (K : PySem.W.Frag) (mg : Str → Option Value) (base : Heap) (G : Gp) (x : Str) (ps : List Str) (k : Nat) (F : List D → Option D) : Prop :=
  ∃ f fd, mg x = some (.ref f) ∧ PySem.W.keepIn K (.ref f) = true ∧ Binds K fd ps [] ∧ FnOk P w K mg base CX0 k f fd ps (spP G ps.length F)
/-- a def that writes the list that it is handed first -/
def OkS (P : Program) (w : World) (K : PySem.W.Frag) (mg : Str → Option Value) (base : Heap) (G : Gp) (x : Str) (ps : List Str) (k : Nat) (F : List D → List D → Option (D × List D)) : Prop :=
  ∃ f fd, mg x = some (.ref f) ∧ PySem.W.keepIn K (.ref f) = true ∧ Binds K fd ps [] ∧ FnOk P w K mg base CX0 k f fd ps (spS G ps.length F)
/-- a def with one keyword-only parameter (the last), whose default is dd; n values are handed by place -/
def OkK (P : Program) (w : World) (K : PySem.W.Frag) (mg : Str → Option Value) (base : Heap) (G : Gp) (x : Str) (ps : List Str) (n : Nat) (kw : Str) (dd : D) (k : Nat) (F : List D → Option D) : Prop :=
  ∃ f fd, mg x = some (.ref f) ∧ PySem.W.keepIn K (.ref f) = true ∧ (∃ dv dvv, Vals dv dvv ∧ (∀ R H, SdL G R H [dd] dv) ∧ Binds K fd ps dvv) ∧ KBn K fd ps n [kw] (fun us ws => us ++ ws) (fun vs zs => vs ++ zs) ∧ FnOk P w K mg base CX0 k f fd ps (spP G (n + 1) F)
end
section
variable {X : Cx} {G : Gp} {own : List Nat} {pos : Pos} {a b c e : Expr} {es rest : List Expr} {kx k : Nat} {x : Str} {ps : List Str} {F : List D → Option D} {g : LD} {p : Pos}
theorem wcal (O : OkP X.prog X.w X.K X.mg X.base G x ps k F) (hr : Room kx X.A) (hle : k ≤ kx) (hg : Gl X x) (ha : PA X (e :: es) (tA G own g))
    (hdb : (x == ("__debug__" : Str)) = false := by decide) (he : starEach (e :: es) X.env = (false, eval e X.env) :: starEach es X.env := by rfl) (hpl : (backTo pos (starEach es X.env)).any (·.1) = false := by rfl) :
    PE X (.Call (.Name x p) (e :: es) [] pos) (tD G own (dCal ps.length F g)) := by
  obtain ⟨f, fd, hm, hk, hb, Fn⟩ := O
  exact vcal Fn (hr.mono hle) hg hm hk hb ha hdb he hpl
theorem wcal0 (O : OkP X.prog X.w X.K X.mg X.base G x [] k F) (hr : Room kx X.A) (hle : k ≤ kx) (hg : Gl X x) (hdb : (x == ("__debug__" : Str)) = false := by decide) : PE X (.Call (.Name x p) [] [] pos) (tD G own (dCal 0 F aNil)) := by
  obtain ⟨f, fd, hm, hk, hb, Fn⟩ := O
  exact vcal0 Fn (hr.mono hle) hg hm hk hb hdb
theorem wcs (i : Nat) {F : List D → List D → Option (D × List D)} {y : Str} {yp : Pos} (O : OkS X.prog X.w X.K X.mg X.base G x ps k F) (hr : Room kx X.A) (hle : k ≤ kx) (hg : Gl X x)
    (ha : PA X es (tA G own g)) (hi : own.contains i = true := by rfl) (hN : X.N[i]? = some y := by rfl) (hy : Vis X.env.scope y := by first | exact Or.inl rfl | exact Or.inr (Or.inl rfl) | exact Or.inr (Or.inr rfl))
    (hd : (y == ("__debug__" : Str)) = false := by decide) (hcd : (y == ("__classdict__" : Str)) = false := by decide)
    (hdb : (x == ("__debug__" : Str)) = false := by decide) (he : starEach (.Name y yp :: es) X.env = (false, eval (.Name y yp) X.env) :: starEach es X.env := by rfl) (hpl : (backTo pos (starEach es X.env)).any (·.1) = false := by rfl) :
    PE X (.Call (.Name x p) (.Name y yp :: es) [] pos) (tD G own (dCS i ps.length F g)) := by
  obtain ⟨f, fd, hm, hk, hb, Fn⟩ := O
  exact vcs i Fn (hr.mono hle) hg hm hk hb ha hi hN hy hd hcd hdb he hpl
def dCalD (n : Nat) (dd : D) (F : List D → Option D) (g : LD) : TD := dCal n F fun ρ => (g ρ).map fun p => (p.1 ++ [dd], p.2)
theorem wcalD {n : Nat} {kw : Str} {dd : D} (O : OkK X.prog X.w X.K X.mg X.base G x ps n kw dd k F) (hr : Room kx X.A) (hle : k ≤ kx) (hg : Gl X x) (ha : PA X (e :: es) (tA G own g))
    (hdb : (x == ("__debug__" : Str)) = false := by decide) (he : starEach (e :: es) X.env = (false, eval e X.env) :: starEach es X.env := by rfl) (hpl : (backTo pos (starEach es X.env)).any (·.1) = false := by rfl) :
    PE X (.Call (.Name x p) (e :: es) [] pos) (tD G own (dCalD (n + 1) dd F g)) := by
  obtain ⟨f, fd, hm, hk, ⟨dv, dvv, hv, hd, hb⟩, _, Fn⟩ := O
  exact vcalD Fn (hr.mono hle) hg hm hk hb hv hd ha hdb he hpl
def dCalN (n : Nat) (F : List D → Option D) (g : LD) (h : TD) : TD := fun ρ => (g ρ).bind fun p => (h p.2).bind fun q => if p.1.length = n then (F (p.1 ++ [q.1])).map fun d => (d, q.2) else none
theorem wcalN {n : Nat} {kw : Str} {dd : D} {h : TD} {kp : Pos} (O : OkK X.prog X.w X.K X.mg X.base G x ps n kw dd k F) (hr : Room kx X.A) (hle : k ≤ kx) (hg : Gl X x) (ha : PA X (e :: es) (tA G own g)) (hh : PE X c (tD G own h))
    (hall : (backToKw pos (keywordEach [⟨some kw, c, kp⟩] X.env)).all (·.1.isSome) = true := by rfl) (hks : (backToKw pos (keywordEach [⟨some kw, c, kp⟩] X.env)).filterMap (·.1) = [kw] := by rfl)
    (hdb : (x == ("__debug__" : Str)) = false := by decide) (he : starEach (e :: es) X.env = (false, eval e X.env) :: starEach es X.env := by rfl)
    (hpl : ((backTo pos (starEach (e :: es) X.env)).any (·.1) || (backToKw pos (keywordEach [⟨some kw, c, kp⟩] X.env)).any (·.1.isNone)) = false := by rfl) :
    PE X (.Call (.Name x p) (e :: es) [⟨some kw, c, kp⟩] pos) (tD G own (dCalN n F g h)) := by
  obtain ⟨f, fd, hm, hk, _, hb, Fn⟩ := O
  refine PE.weak (pe_callN Fn (hr.mono hle) hg hm hk hb pass0 ha (kone hh) hall hks hdb he hpl) fun σ H Q w => ?_
  obtain ⟨B, ρ, d, ρ', E, e, q⟩ := w
  unfold dCalN at e
  cases e1 : g ρ with
  | none => rw [e1] at e; cases e
  | some p =>
    rw [e1, Option.bind_some] at e
    cases e2 : h p.2 with
    | none => rw [e2] at e; cases e
    | some p2 =>
      rw [e2, Option.bind_some] at e
      split at e
      · rename_i hl
        cases e3 : F (p.1 ++ [p2.1]) with
        | none => rw [e3] at e; cases e
        | some d' =>
          rw [e3] at e
          cases e
          refine ⟨B, ρ, p.1, p.2, E, e1, fun vs H1 E1 k1 s1 => ⟨B, p.2, [p2.1], p2.2, E1, ?_, fun us H2 E2 k2 s2 => ⟨by rw [s1.length, hl], s2.length, call_p E2 (k1.trans k2) ((s1.ks E1 k2).append s2) (by rw [List.length_append, hl]; rfl) e3 q⟩⟩⟩
          show ((h p.2).bind fun q => ((aNil q.2).map fun r => (q.1 :: r.1, r.2))) = _
          rw [e2]
          rfl
      · cases e
end

section
variable {X : Cx} {G : Gp} {own : List Nat} {pos : Pos} {x : Str} {ps : List Str}
theorem vgx {i : Int} (hg : Gl X x) (hm : ∃ t, X.mg x = some (.int i t)) (hd : (x == ("__debug__" : Str)) = false := by decide) : PE X (.Name x pos) (tD G own (dC (.int i))) := by
  obtain ⟨t, h⟩ := hm
  exact vgi hg h hd
theorem kbn1 {K : PySem.W.Frag} {y qual kw : Str} {params : Arguments} {body : List Stmt} {scope : Scope} {kws : List (Str × V)} {f : Addr} {fd : FuncData} {n : Nat} (F : FunD K y qual params body scope [] kws f fd)
    (h : ∀ (kV doc pm : Value) (an : Option Addr) (cdv ct : Value) (us : List Value) (u : Value), us.length = n → bindArgs (PySem.W.fnOf y qual params body scope .none kV doc pm an cdv ct) ⟨us, [(kw, u)]⟩ = pure (ps.zip (us ++ [u]))) :
    KBn K fd ps n [kw] (fun us ws => us ++ ws) (fun vs zs => vs ++ zs) := by
  obtain ⟨oc, od, dV, kV, doc, pm, an, cdv, ct, osl, rfl, lk, hcd, hD, hK⟩ := F.ex
  rcases hD with ⟨_, rfl⟩ | ⟨e, _⟩
  · refine ⟨fun s us ws X h1 h2 => BindsTo.of_looks fun M => ?_, fun r1 r2 => r1.append r2⟩
    match ws, h2 with
    | [u], _ => exact PySem.W.Looks.of_pure (h kV doc pm an cdv ct us u h1)
  · exact absurd rfl e
end

/-! ### a list that a call makes anew -/
section
variable {P : Program} {w : World} {K : PySem.W.Frag} {mg : Str → Option Value} {base : Heap} {G : Gp} {x qual : Str} {st : Stmt} {f : Addr} {fd : FuncData} {N ps : List Str} {k : Nat} {o1 o2 : List Nat} {fb : SD} {dvs : List V} {kws : List (Str × V)}
/-- the answer is a new list -/
def spF (G : Gp) (n : Nat) (F : List D → Option (List D)) : Sp := fun vs H Q _ => ∃ S ds l, SdL G S H ds vs ∧ ds.length = n ∧ F ds = some l ∧
  ∀ p us H1 H', Ext H H1 → H1 p = none → Ext H1 H' → H' p = some (.lst us) → SdL G (fun b => (S b ∨ H b = none) ∧ b ≠ p) H' l us → Q (.ref p) H'
def runF (n : Nat) (f1 f2 : SD) (f3 : TD) : List D → Option (List D) := fun ds => match f1 (startD n ds) with
  | some (.nx ρ1) => match f2 ρ1 with
    | some (.nx ρ2) => match f3 ρ2 with
      | some (.lst l, _) => some l
      | _ => none
    | _ => none
  | _ => none
theorem fn_f {f1 f2 : SD} {f3 : TD} (Fu : FunD K x qual (defArgs st) (defBody st) (defScope st) dvs kws f fd) (S : FnScope N ps (defScope st))
    (hb : ∀ (cdv : Value) (A : Around) (outer : List Env) (s : Shared) (H : Hp) (E : XK), Room k (A.deeper (envOfC qual (defScope st) s.heap.objs.size f cdv)) →
      PSs (cxOf CX0 P w K mg base N qual (defScope st) f cdv A outer s H E).nox (defBody st) (tSeq (sD G [] [] f1) (tSeq (sD G [] [] f2) (tRet (tF G [] f3))))) : FnOk P w K mg base CX0 (k + 1) f fd ps (spF G ps.length (runF N.length f1 f2 f3)) := by
  refine Fu.ok S (fun vs H Q E h => ?_) fun cdv A outer s H vs Q E hr h => ⟨_, PSs.nox (hb cdv A outer s H E hr), ?_⟩
  · obtain ⟨S', ds, d, s1, hl, _⟩ := h
    rw [s1.length, hl]
  · obtain ⟨S', ds, l, s1, hl, e, q⟩ := h
    unfold runF at e
    cases e1 : f1 (startD N.length ds) with
    | none => rw [e1] at e; cases e
    | some r1 =>
      rw [e1] at e
      cases r1 with
      | rt _ _ => cases e
      | nx ρ1 =>
        cases e2 : f2 ρ1 with
        | none => simp only [e2] at e; cases e
        | some r2 =>
          simp only [e2] at e
          cases r2 with
          | rt _ _ => cases e
          | nx ρ2 =>
            cases e3 : f3 ρ2 with
            | none => simp only [e3] at e; cases e
            | some r3 =>
              obtain ⟨d3, ρ3⟩ := r3
              simp only [e3] at e
              cases d3 with
              | lst l' =>
                cases e
                have E0 := env_start (G := G) (B := ⟨none, S', H, fun _ => False⟩) (N := N) rfl (s1.imp fun b hb => ⟨.inl hb, fun ⟨j, hj, _⟩ => absurd hj (by simp), id⟩) rfl fun _ z => z
                refine ⟨_, _, _, E0, e1, fun σ1 H1 E1 k1 => ⟨_, _, _, E1, e2, fun σ2 H2 E2 k2 => ⟨_, _, _, _, E2, e3, fun p us H3 H4 E3 k3 n3 x3 h3 s3 => ?_⟩⟩⟩
                exact q p us H3 H4 (fun b u h => E3.same b u (fun z => nomatch z) h) n3 x3 h3 (s3.imp fun b r => ⟨r.1.1, r.2⟩)
              | _ => cases e
/-- such a def -/
def OkF (P : Program) (w : World) (K : PySem.W.Frag) (mg : Str → Option Value) (base : Heap) (G : Gp) (x : Str) (ps : List Str) (k : Nat) (F : List D → Option (List D)) : Prop :=
  ∃ f fd, mg x = some (.ref f) ∧ PySem.W.keepIn K (.ref f) = true ∧ Binds K fd ps [] ∧ FnOk P w K mg base CX0 k f fd ps (spF G ps.length F)
end
section
variable {X : Cx} {G : Gp} {own : List Nat} {pos : Pos} {e : Expr} {es : List Expr} {kx k : Nat} {x : Str} {ps : List Str} {F : List D → Option (List D)} {g : LD} {p : Pos}
def dCalF (n : Nat) (F : List D → Option (List D)) (g : LD) : TD := fun ρ => (g ρ).bind fun p => if p.1.length = n then (F p.1).map fun l => (.lst l, p.2) else none
theorem dCalF_lst {n : Nat} (ρ : DE) (d : D) (ρ' : DE) (e : dCalF n F g ρ = some (d, ρ')) : ∃ ds, d = .lst ds := by
  unfold dCalF at e
  cases e1 : g ρ with
  | none => rw [e1] at e; cases e
  | some p =>
    rw [e1, Option.bind_some] at e
    split at e
    · cases e2 : F p.1 with
      | none => rw [e2] at e; cases e
      | some l => rw [e2] at e; cases e; exact ⟨l, rfl⟩
    · cases e
theorem wcalF (O : OkF X.prog X.w X.K X.mg X.base G x ps k F) (hr : Room kx X.A) (hle : k ≤ kx) (hg : Gl X x) (ha : PA X (e :: es) (tA G own g))
    (hdb : (x == ("__debug__" : Str)) = false := by decide) (he : starEach (e :: es) X.env = (false, eval e X.env) :: starEach es X.env := by rfl) (hpl : (backTo pos (starEach es X.env)).any (·.1) = false := by rfl) :
    PE X (.Call (.Name x p) (e :: es) [] pos) (tF G own (dCalF ps.length F g)) := by
  obtain ⟨f, fd, hm, hk, hb, Fn⟩ := O
  refine PE.weak (pe_call Fn (hr.mono hle) hg hm hk hb .nil pass0 ha hdb he hpl) fun σ H Q w => ?_
  obtain ⟨B, ρ, l, ρ', E, e, q⟩ := w
  unfold dCalF at e
  cases e1 : g ρ with
  | none => rw [e1] at e; cases e
  | some p1 =>
    rw [e1, Option.bind_some] at e
    split at e
    · rename_i hl
      cases e2 : F p1.1 with
      | none => rw [e2] at e; cases e
      | some l' =>
        rw [e2] at e
        cases e
        refine ⟨B, ρ, p1.1, p1.2, E, e1, fun vs H1 E1 k1 s1 => ?_⟩
        refine ⟨RS B own σ, p1.1, _, by rw [List.append_nil]; exact s1, hl, e2, fun p us H2 H3 x2 n2 x3 h3 s3 => ?_⟩
        exact q p us H2 H3 (E1.ext x2) (k1.trans (KS.ext x2)) n2 x3 h3 (s3.imp fun b r => ⟨r.1.elim id fun z => E1.new b z, r.2⟩)
    · cases e
end
end DL
end
section
set_option Elab.async false
set_option linter.all false
set_option maxRecDepth 100000
set_option maxHeartbeats 4000000
set_option autoImplicit false
/-! What each def computes. Printed by gen.py. -/
namespace DL
open PySem PySem.Spec
open PyProof.Rows hiding St
open L2

def FU : Nat := 1000000
abbrev gLe : D → D → Option D := gCmp fun i j => decide (i ≤ j)
abbrev gGt : D → D → Option D := gCmp fun i j => decide (j < i)
abbrev gGe : D → D → Option D := gCmp fun i j => decide (j ≤ i)
abbrev kLen : List D → Option D := fun ds => some (.int ds.length)
abbrev kNN : List D → Option D := fun ds => some (.bl (!ds.isEmpty))
def S_greater : SD := (sRet (dIf (dT (dOp gLt (dV 0) (dV 1))) (dV 1) (dV 0)))
def F_greater : List D → Option D := runP 2 S_greater
def S_lesser : SD := (sRet (dIf (dT (dOp gLt (dV 0) (dV 1))) (dV 0) (dV 1)))
def F_lesser : List D → Option D := runP 2 S_lesser
def S_place_of : SD := (sSeq (sFor (lEl (dV 0)) (gT 2 (glC (gN 2) (glC (gN 3) glN))) (sIf (dT (dOp gEq (dV 3) (dV 1))) (sRet (dV 2)) sNil))
    (sRet (dC .non)))
def F_place_of : List D → Option D := runP 4 S_place_of
def S_merged : SD := (sSeq (sSet 2 (dLst aNil))
    (sSeq (sTg (dTup (aCons (dC (.int 0)) (aCons (dC (.int 0)) aNil))) (gT 2 (glC (gN 3) (glC (gN 4) glN))))
    (sSeq (sWh (bAnd (dT (dOp gLt (dV 3) (dCb gLen (aCons (dV 0) aNil)))) (dT (dOp gLt (dV 4) (dCb gLen (aCons (dV 1) aNil))))) (sIf (dT (dOp gLt (dOp gIx (dV 1) (dV 4)) (dOp gIx (dV 0) (dV 3)))) (sSeq (sApp 2 (dOp gIx (dV 1) (dV 4)))
    (sAug 4 (dC (.int 1)))) (sSeq (sAug 4 (dCb gInt (aCons (dOp gEq (dOp gIx (dV 0) (dV 3)) (dOp gIx (dV 1) (dV 4))) aNil)))
    (sSeq (sApp 2 (dOp gIx (dV 0) (dV 3)))
    (sAug 3 (dC (.int 1)))))) FU)
    (sRet (dOp gAdd (dOp gAdd (dV 2) (dSl (dV 0) (oS (dV 3)) oN)) (dSl (dV 1) (oS (dV 4)) oN))))))
def F_merged : List D → Option D := runP 5 S_merged
def S_in_order : SD := (sSeq (sSet 1 (dLc [] [4] (lL (dV 0)) (gN 4) bYes (dLst (aCons (dV 4) aNil))))
    (sSeq (sWh (dT (dOp gGt (dCb gLen (aCons (dV 1) aNil)) (dC (.int 1)))) (sSeq (sSet 2 (dOp gDiv (dCb gLen (aCons (dV 1) aNil)) (dC (.int 2))))
    (sSeq (sSet 3 (dSl (dV 1) (oS (dOp gMul (dC (.int 2)) (dV 2))) oN))
    (sSet 1 (dOp gAdd (dLc [] [5, 6] (lZ (aCons (dSl (dV 1) oN (oS (dV 2))) (aCons (dSl (dV 1) (oS (dV 2)) (oS (dOp gMul (dC (.int 2)) (dV 2)))) aNil))) (gT 2 (glC (gN 5) (glC (gN 6) glN))) bYes (dCal 2 F_merged (aCons (dV 5) (aCons (dV 6) aNil)))) (dV 3))))) FU)
    (sRet (dIf (dT (dNN (dV 1))) (dCb gTuple (aCons (dOp gIx (dV 1) (dC (.int 0))) aNil)) (dTup aNil)))))
def F_in_order : List D → Option D := runP 7 S_in_order
def S_is_integer : SD := (sRet (dAnd (dIsi "int" (dV 0)) (dNot (dIsi "bool" (dV 0)))))
def F_is_integer : List D → Option D := runP 1 S_is_integer
def S_rest_of : SD := (sSeq (sTg (dV 0) (gT 3 (glC (gN 1) (glC (gN 2) (glC (gN 3) glN)))))
    (sRet (dIf (dT (dOp gIs (dV 3) (dC .non))) (dTup (aCons (dV 1) aNil)) (dTup (aCons (dV 1) (aCons (dOp gSub (dV 3) (dV 2)) aNil))))))
def F_rest_of : List D → Option D := runP 4 S_rest_of
def S_lies_in : SD := (sSeq (sTg (dV 1) (gT 2 (glC (gN 2) (glC (gN 3) glN))))
    (sRet (dAnd (dOr (dOp gIs (dV 2) (dC .non)) (dOp gLe (dV 2) (dV 0))) (dOr (dOp gIs (dV 3) (dC .non)) (dOp gLe (dV 0) (dV 3))))))
def F_lies_in : List D → Option D := runP 4 S_lies_in
def S_counting_row : SD := (sSeq (sFor (lEt (dOp gIx (dV 0) (dOp gIx (dV 1) (dC (.int 0))))) (gT 2 (glC (gN 3) (glC (gN 4) glN))) (sSeq (sTg (dV 4) (gT 4 (glC (gN 5) (glC (gN 6) (glC (gN 7) (glC (gN 8) glN))))))
    (sIf (dT (dCal 2 F_lies_in (aCons (dV 2) (aCons (dV 5) aNil)))) (sIf (bOr (dT (dOp gIs (dV 6) (dC .non))) (bAnd (dT (dOp gEq (dCb gLen (aCons (dV 1) aNil)) (dC (.int 2)))) (dT (dCal 2 F_lies_in (aCons (dOp gSub (dV 2) (dOp gIx (dV 1) (dC (.int 1)))) (aCons (dV 6) aNil)))))) (sRet (dV 3)) sNil) sNil)))
    (sRet (dC .non)))
def F_counting_row : List D → Option D := runP 9 S_counting_row
def S_step_from : SD := (sSeq (sSet 3 (dCal 3 F_counting_row (aCons (dV 0) (aCons (dV 1) (aCons (dV 2) aNil)))))
    (sSeq (sIf (dT (dOp gIs (dV 3) (dC .non))) (sRet (dTup (aCons (dC (.bl false)) (aCons (dV 1) aNil)))) sNil)
    (sSeq (sTg (dSl (dOp gIx (dOp gIx (dV 0) (dOp gIx (dV 1) (dC (.int 0)))) (dV 3)) (oS (dC (.int 2))) oN) (gT 2 (glC (gN 4) (glC (gN 5) glN))))
    (sSeq (sIf (dT (dOp gEq (dV 4) (dC (.str "take")))) (sRet (dTup (aCons (dC (.bl true)) (aCons (dTup (aCons (dV 5) aNil)) aNil)))) sNil)
    (sSeq (sIf (dT (dOp gEq (dV 4) (dC (.str "keep")))) (sRet (dTup (aCons (dC (.bl false)) (aCons (dTup (aCons (dV 5) (aCons (dV 2) aNil))) aNil)))) sNil)
    (sRet (dTup (aCons (dC (.bl false)) (aCons (dIf (dT (dOp gEq (dV 4) (dC (.str "drop")))) (dTup (aCons (dV 5) aNil)) (dOp gAdd (dTup (aCons (dV 5) aNil)) (dSl (dV 1) (oS (dC (.int 1))) oN))) aNil)))))))))
def F_step_from : List D → Option D := runP 6 S_step_from
def S_all_steps : SD := (sRet (dLr (r2 (dOp gSub (dC (.int 0)) (dC (.int 13))) (dOp gAdd (dC (.int 13)) (dC (.int 1))))))
def F_all_steps : List D → Option D := runP 0 S_all_steps
def S_rests_met : SD := (sSeq (sSet 1 (dLst (aCons (dTup (aCons (dC (.int 0)) aNil)) aNil)))
    (sSeq (sSet 2 (dC (.int 0)))
    (sSeq (sWh (dT (dOp gLt (dV 2) (dOwn 1 kLen))) (sSeq (sFor (lL (dCal 0 F_all_steps aNil)) (gN 3) (sSeq (sSet 4 (dOp gIx (dCal 3 F_step_from (aCons (dV 0) (aCons (dO 1 (dV 2) gIx) (aCons (dV 3) aNil)))) (dC (.int 1))))
    (sIf (dT (dNotInO (dV 4) 1)) (sApp 1 (dV 4)) sNil)))
    (sAug 2 (dC (.int 1)))) FU)
    (sRet (dV 1)))))
def F_rests_met : List D → Option D := runP 5 S_rests_met
def S_table_of : SD := (sSeq (sSet 1 (dCal 1 F_rests_met (aCons (dV 0) aNil)))
    (sSeq (sSet 2 (dLst aNil))
    (sSeq (sFor (lL (dV 1)) (gN 3) (sSeq (sSet 4 (dLc [2] [5] (lL (dCal 0 F_all_steps aNil)) (gN 5) bYes (dCal 3 F_step_from (aCons (dV 0) (aCons (dV 3) (aCons (dV 5) aNil))))))
    (sApp 2 (dLc [2] [6, 7] (lL (dV 4)) (gT 2 (glC (gN 6) (glC (gN 7) glN))) bYes (dTup (aCons (dV 6) (aCons (dCal 2 F_place_of (aCons (dV 1) (aCons (dV 7) aNil))) aNil)))))))
    (sRet (dV 2)))))
def F_table_of : List D → Option D := runP 8 S_table_of
def S_classes_of : SD := (sSeq (sSet 1 (dLc [] [6] (lL (dV 0)) (gN 6) bYes (dC (.int 0))))
    (sSeq (sSet 2 (dC (.int 0)))
    (sSeq (sSet 3 (dLst (aCons (dTup aNil) aNil)))
    (sSeq (sWh (dT (dOp gLt (dV 2) (dCb gLen (aCons (dV 3) aNil)))) (sSeq (sSet 2 (dCb gLen (aCons (dV 3) aNil)))
    (sSeq (sSet 4 (dLc [] [6] (lL (dV 0)) (gN 6) bYes (dCb gTuple (aCons (dLc [] [7, 8] (lL (dV 6)) (gT 2 (glC (gN 7) (glC (gN 8) glN))) bYes (dTup (aCons (dV 7) (aCons (dOp gIx (dV 1) (dV 8)) aNil)))) aNil))))
    (sSeq (sSet 3 (dLst aNil))
    (sSeq (sFor (lL (dV 4)) (gN 5) (sIf (dT (dNotInO (dV 5) 3)) (sApp 3 (dV 5)) sNil))
    (sSet 1 (dLc [] [5] (lL (dV 4)) (gN 5) bYes (dCal 2 F_place_of (aCons (dV 3) (aCons (dV 5) aNil))))))))) FU)
    (sRet (dV 1))))))
def F_classes_of : List D → Option D := runP 9 S_classes_of
def S_runs_of : SD := (sSeq (sSet 1 (dTup aNil))
    (sSeq (sFor (lZ (aCons (dCal 0 F_all_steps aNil) (aCons (dV 0) aNil))) (gT 2 (glC (gN 2) (glC (gT 2 (glC (gN 3) (glC (gN 4) glN))) glN))) (sSeq (sIf (bAnd (dT (dOp gNe (dV 1) (dTup aNil))) (dT (dOp gEq (dSl (dOp gIx (dV 1) (dNeg (dC (.int 1)))) (oS (dC (.int 1))) oN) (dTup (aCons (dV 3) (aCons (dV 4) aNil)))))) (sSet 1 (dSl (dV 1) oN (oS (dNeg (dC (.int 1)))))) sNil)
    (sSet 1 (dOp gAdd (dV 1) (dTup (aCons (dTup (aCons (dV 2) (aCons (dV 3) (aCons (dV 4) aNil)))) aNil))))))
    (sRet (dOp gAdd (dSl (dV 1) oN (oS (dNeg (dC (.int 1))))) (dTup (aCons (dOp gAdd (dTup (aCons (dC .non) aNil)) (dSl (dOp gIx (dV 1) (dNeg (dC (.int 1)))) (oS (dC (.int 1))) oN)) aNil))))))
def F_runs_of : List D → Option D := runP 5 S_runs_of
def S_least_of : SD := (sSeq (sSet 1 (dCal 1 F_classes_of (aCons (dV 0) aNil)))
    (sSeq (sSet 2 (dLst (aCons (dOp gIx (dV 1) (dC (.int 0))) aNil)))
    (sSeq (sSet 3 (dLst aNil))
    (sSeq (sWh (dT (dOp gLt (dOwn 3 kLen) (dOwn 2 kLen))) (sSeq (sSet 5 (dLc [3, 2] [4, 7] (lL (dOp gIx (dV 0) (dCal 2 F_place_of (aCons (dV 1) (aCons (dO 2 (dOwn 3 kLen) gIx) aNil))))) (gT 2 (glC (gN 4) (glC (gN 7) glN))) bYes (dTup (aCons (dV 4) (aCons (dOp gIx (dV 1) (dV 7)) aNil)))))
    (sSeq (sApp 3 (dV 5))
    (sFor (lL (dV 5)) (gT 2 (glC (gN 4) (glC (gN 6) glN))) (sIf (dT (dNotInO (dV 6) 2)) (sApp 2 (dV 6)) sNil)))) FU)
    (sRet (dCb gTuple (aCons (dLc [] [5] (lL (dV 3)) (gN 5) bYes (dCal 1 F_runs_of (aCons (dLc [] [4, 6] (lL (dV 5)) (gT 2 (glC (gN 4) (glC (gN 6) glN))) bYes (dTup (aCons (dV 4) (aCons (dCal 2 F_place_of (aCons (dV 2) (aCons (dV 6) aNil))) aNil)))) aNil))) aNil)))))))
def F_least_of : List D → Option D := runP 8 S_least_of
def S_form_of : SD := (sRet (dCal 1 F_least_of (aCons (dCal 1 F_table_of (aCons (dV 0) aNil)) aNil)))
def F_form_of : List D → Option D := runP 1 S_form_of
def S_run_at : SD := (sSeq (sFor (lT (dOp gIx (dV 0) (dV 1))) (gT 3 (glC (gN 3) (glC (gN 4) (glC (gN 5) glN)))) (sIf (bOr (dT (dOp gIs (dV 3) (dC .non))) (dT (dOp gLe (dV 2) (dV 3)))) (sRet (dTup (aCons (dV 4) (aCons (dV 5) aNil)))) sNil))
    (sRet (dC .non)))
def F_run_at : List D → Option D := runP 6 S_run_at
def S_hear : SD := (sSeq (sSet 3 (dOp gIx (dV 1) (dC (.int 1))))
    (sSeq (sTg (dCal 3 F_step_from (aCons (dV 0) (aCons (dCal 1 F_rest_of (aCons (dV 1) aNil)) (aCons (dOp gSub (dV 2) (dV 3)) aNil)))) (gT 2 (glC (gN 4) (glC (gN 5) glN))))
    (sSeq (sIf (dT (dV 4)) (sRet (dTup (aCons (dC (.bl true)) (aCons (dTup (aCons (dOp gIx (dV 5) (dC (.int 0))) (aCons (dV 2) (aCons (dC .non) aNil)))) aNil)))) sNil)
    (sRet (dTup (aCons (dC (.bl false)) (aCons (dTup (aCons (dOp gIx (dV 5) (dC (.int 0))) (aCons (dV 3) (aCons (dIf (dT (dOp gEq (dCb gLen (aCons (dV 5) aNil)) (dC (.int 2)))) (dOp gAdd (dV 3) (dOp gIx (dV 5) (dC (.int 1)))) (dC .non)) aNil)))) aNil)))))))
def F_hear : List D → Option D := runP 6 S_hear
def S_beginning : SD := (sRet (dTup (aCons (dC (.int 0)) (aCons (dV 0) (aCons (dC .non) aNil)))))
def F_beginning : List D → Option D := runP 1 S_beginning
def S_walked : SD := (sSeq (sSet 3 (dCal 1 F_beginning (aCons (dV 2) aNil)))
    (sSeq (sSet 4 (dLst aNil))
    (sSeq (sFor (lT (dV 1)) (gN 5) (sSeq (sTg (dCal 3 F_hear (aCons (dV 0) (aCons (dV 3) (aCons (dV 5) aNil)))) (gT 2 (glC (gN 6) (glC (gN 3) glN))))
    (sApp 4 (dV 6))))
    (sRet (dTup (aCons (dCb gTuple (aCons (dV 4) aNil)) (aCons (dV 3) aNil)))))))
def F_walked : List D → Option D := runP 7 S_walked
def S_answers : SD := (sRet (dOp gIx (dCal 3 F_walked (aCons (dV 0) (aCons (dV 1) (aCons (dV 2) aNil)))) (dC (.int 0))))
def F_answers : List D → Option D := runP 3 S_answers
def S_next_steps : SD := (sRet (dIf (dT (dV 1)) (dLr (r2 (dCal 2 F_lesser (aCons (dOp gAdd (dV 0) (dC (.int 1))) (aCons (dC (.int 13)) aNil))) (dOp gAdd (dC (.int 13)) (dC (.int 1))))) (dCal 0 F_all_steps aNil)))
def F_next_steps : List D → Option D := runP 2 S_next_steps
def S_ahead_behind : SD := (sRet (dIf (dT (dV 2)) (dC (.int 0)) (dCal 2 F_greater (aCons (dV 0) (aCons (dV 1) aNil)))))
def F_ahead_behind : List D → Option D := runP 3 S_ahead_behind
def S_road : SD := (sSeq (sSet 1 (dLst aNil))
    (sSeq (sSet 2 (dV 0))
    (sSeq (sWh (dT (dOp gIsNot (dFld 1 (dV 2)) (dC .non))) (sSeq (sApp 1 (dTup (aCons (dFld 2 (dV 2)) (aCons (dFld 3 (dV 2)) aNil))))
    (sSet 2 (dFld 1 (dV 2)))) FU)
    (sRet (dRev (dV 1))))))
def F_road : List D → Option D := runP 3 S_road
def S_numbers_by : SD := (sSeq (sSet 1 (dC (.int 0)))
    (sSeq (sSet 2 (dC (.int 0)))
    (sSeq (sSet 3 (dLst aNil))
    (sSeq (sFor (lL (dV 0)) (gT 2 (glC (gN 4) (glC (gN 5) glN))) (sSeq (sSet 6 (dIf (dT (dOp gEq (dV 4) (dC (.int 13)))) (dCal 2 F_greater (aCons (dOp gAdd (dV 1) (dV 4)) (aCons (dOp gAdd (dV 2) (dC (.int 1))) aNil))) (dOp gAdd (dV 1) (dV 4))))
    (sSeq (sApp 3 (dV 6))
    (sSeq (sSet 2 (dCal 2 F_greater (aCons (dV 2) (aCons (dV 6) aNil))))
    (sIf (dT (dV 5)) (sSet 1 (dV 6)) sNil)))))
    (sRet (dCb gTuple (aCons (dV 3) aNil)))))))
def F_numbers_by : List D → Option D := runP 7 S_numbers_by
def S_nodes_from : SD := (sSeq (sTg (dFld 0 (dV 0)) (gT 3 (glC (gN 3) (glC (gN 4) (glC (gN 5) glN)))))
    (sSeq (sSet 6 (dLst aNil))
    (sSeq (sFor (lL (dCal 2 F_next_steps (aCons (dV 5) (aCons (dV 2) aNil)))) (gN 7) (sSeq (sTg (dCal 3 F_run_at (aCons (dOp gIx (dV 1) (dC (.int 0))) (aCons (dV 3) (aCons (dV 7) aNil)))) (gT 2 (glC (gN 8) (glC (gN 9) glN))))
    (sSeq (sTg (dCal 3 F_run_at (aCons (dOp gIx (dV 1) (dC (.int 1))) (aCons (dV 4) (aCons (dV 7) aNil)))) (gT 2 (glC (gN 10) (glC (gN 11) glN))))
    (sSeq (sSet 12 (dIf (dT (dV 2)) (dCal 3 F_ahead_behind (aCons (dV 5) (aCons (dV 7) (aCons (dV 8) aNil)))) (dC (.int 0))))
    (sSeq (sSet 13 (dNode (aCons (dTup (aCons (dV 9) (aCons (dV 11) (aCons (dV 12) aNil)))) (aCons (dV 0) (aCons (dV 7) (aCons (dV 8) aNil))))))
    (sSeq (sIf (dT (dOp gNe (dV 8) (dV 10))) (sRet (dTup (aCons (dV 6) (aCons (dV 13) aNil)))) sNil)
    (sApp 6 (dV 13))))))))
    (sRet (dTup (aCons (dV 6) (aCons (dC .non) aNil)))))))
def F_nodes_from : List D → Option D := runP 14 S_nodes_from
def S_all_nodes : SD := (sSeq (sSet 3 (dLst (aCons (dNode (aCons (dOp gAdd (dV 1) (dTup (aCons (dC (.int 0)) aNil))) (aCons (dC .non) (aCons (dC (.int 0)) (aCons (dC (.bl false)) aNil))))) aNil)))
    (sSeq (sSet 4 (dLst aNil))
    (sSeq (sWh (dT (dNN (dV 3))) (sSeq (sSet 4 (dOp gAdd (dV 4) (dV 3)))
    (sSeq (sSet 6 (dDc [] [5] (lL (dV 4)) (gN 5) (dFld 0 (dV 5)) (dC (.bl true))))
    (sSeq (sSet 7 (dLst aNil))
    (sSeq (sFor (lL (dV 3)) (gN 5) (sSeq (sTg (dCal 3 F_nodes_from (aCons (dV 5) (aCons (dV 0) (aCons (dV 2) aNil)))) (gT 2 (glC (gN 8) (glC (gN 9) glN))))
    (sSeq (sIf (dT (dOp gIsNot (dV 9) (dC .non))) (sRet (dTup (aCons (dV 4) (aCons (dV 9) aNil)))) sNil)
    (sExt 7 (dLc [7] [10] (lL (dV 8)) (gN 10) (dT (dOp (gInD true) (dFld 0 (dV 10)) (dV 6))) (dV 10))))))
    (sSet 3 (dListV (dDc [] [5] (lL (dRev (dV 7))) (gN 5) (dFld 0 (dV 5)) (dV 5)))))))) FU)
    (sRet (dTup (aCons (dV 4) (aCons (dC .non) aNil)))))))
def F_all_nodes : List D → Option D := runP 11 S_all_nodes
def S_parting : SD := (sSeq (sSet 3 (dOp gIx (dCal 3 F_all_nodes (aCons (dTup (aCons (dCal 1 F_form_of (aCons (dV 0) aNil)) (aCons (dCal 1 F_form_of (aCons (dV 1) aNil)) aNil))) (aCons (dTup (aCons (dC (.int 0)) (aCons (dC (.int 0)) aNil))) (aCons (dV 2) aNil)))) (dC (.int 1))))
    (sRet (dIf (dT (dOp gIs (dV 3) (dC .non))) (dC .non) (dCal 1 F_numbers_by (aCons (dMet F_road (dV 3)) aNil)))))
def F_parting : List D → Option D := runP 4 S_parting
def S_alike : SD := (sRet (dOp gIs (dCalN 2 F_parting (aCons (dV 0) (aCons (dV 1) aNil)) (dV 2)) (dC .non)))
def F_alike : List D → Option D := runP 3 S_alike
def S_is_rising : SD := (sRet (dCb gAll (aCons (dLc [] [1, 2] (lZ (aCons (dOp gAdd (dTup (aCons (dC (.int 0)) aNil)) (dV 0)) (aCons (dV 0) aNil))) (gT 2 (glC (gN 1) (glC (gN 2) glN))) bYes (dOp gLt (dV 1) (dV 2))) aNil)))
def F_is_rising : List D → Option D := runP 3 S_is_rising
def S_are_numbers : SD := (sRet (dAnd (dIsi "tuple" (dV 0)) (dCb gAll (aCons (dLc [] [1] (lT (dV 0)) (gN 1) bYes (dCal 1 F_is_integer (aCons (dV 1) aNil))) aNil))))
def F_are_numbers : List D → Option D := runP 2 S_are_numbers
def S_parting_holds : SD := (sSeq (sIf (bOr (bNot (dT (dCal 1 F_are_numbers (aCons (dV 2) aNil)))) (bOr (dT (dOp gEq (dV 2) (dTup aNil))) (bAnd (dT (dV 3)) (bNot (dT (dCal 1 F_is_rising (aCons (dV 2) aNil))))))) (sRet (dC (.bl false))) sNil)
    (sSeq (sPar 4 5 (aCons (dCalD 3 (.int 0) F_answers (aCons (dV 0) (aCons (dV 2) aNil))) (aCons (dCalD 3 (.int 0) F_answers (aCons (dV 1) (aCons (dV 2) aNil))) aNil)))
    (sRet (dAnd (dOp gEq (dSl (dV 4) oN (oS (dNeg (dC (.int 1))))) (dSl (dV 5) oN (oS (dNeg (dC (.int 1)))))) (dOp gNe (dV 4) (dV 5))))))
def F_parting_holds : List D → Option D := runP 6 S_parting_holds
def S_keys_behind : SD := (sSeq (sTg (dV 1) (gT 3 (glC (gN 3) (glC (gN 4) (glC (gN 5) glN)))))
    (sSeq (sSet 6 (dLst aNil))
    (sSeq (sFor (lL (dCal 2 F_next_steps (aCons (dV 5) (aCons (dV 2) aNil)))) (gN 7) (sSeq (sTg (dCal 3 F_run_at (aCons (dOp gIx (dV 0) (dC (.int 0))) (aCons (dV 3) (aCons (dV 7) aNil)))) (gT 2 (glC (gN 8) (glC (gN 9) glN))))
    (sSeq (sTg (dCal 3 F_run_at (aCons (dOp gIx (dV 0) (dC (.int 1))) (aCons (dV 4) (aCons (dV 7) aNil)))) (gT 2 (glC (gN 10) (glC (gN 11) glN))))
    (sSeq (sIf (bAnd (dT (dV 8)) (bNot (dT (dV 10)))) (sRet (dC .non)) sNil)
    (sIf (dT (dOp gEq (dV 8) (dV 10))) (sApp 6 (dTup (aCons (dV 9) (aCons (dV 11) (aCons (dIf (dT (dV 2)) (dCal 3 F_ahead_behind (aCons (dV 5) (aCons (dV 7) (aCons (dV 8) aNil)))) (dC (.int 0))) aNil))))) sNil)))))
    (sRet (dV 6)))))
def F_keys_behind : List D → Option D := runP 12 S_keys_behind
def S_below : SD := (sSeq (sSet 3 (dTup (aCons (dCal 1 F_form_of (aCons (dV 0) aNil)) (aCons (dCal 1 F_form_of (aCons (dV 1) aNil)) aNil))))
    (sSeq (sSet 4 (dLst (aCons (dTup (aCons (dC (.int 0)) (aCons (dC (.int 0)) (aCons (dC (.int 0)) aNil)))) aNil)))
    (sSeq (sSet 5 (dLst aNil))
    (sSeq (sWh (dT (dNN (dV 4))) (sSeq (sSet 5 (dOp gAdd (dV 5) (dV 4)))
    (sSeq (sSet 7 (dDc [] [6] (lL (dV 5)) (gN 6) (dV 6) (dC (.bl true))))
    (sSeq (sSet 8 (dLst aNil))
    (sSeq (sFor (lL (dV 4)) (gN 6) (sSeq (sSet 9 (dCal 3 F_keys_behind (aCons (dV 3) (aCons (dV 6) (aCons (dV 2) aNil)))))
    (sSeq (sIf (dT (dOp gIs (dV 9) (dC .non))) (sRet (dC (.bl false))) sNil)
    (sExt 8 (dLc [8] [10] (lL (dV 9)) (gN 10) (dT (dOp (gInD true) (dV 10) (dV 7))) (dV 10))))))
    (sSet 4 (dCb gListD (aCons (dDc [] [6] (lL (dV 8)) (gN 6) (dV 6) (dC (.bl true))) aNil))))))) FU)
    (sRet (dC (.bl true)))))))
def F_below : List D → Option D := runP 11 S_below
def S_pairs_behind : SD := (sSeq (sSet 3 (dLst aNil))
    (sSeq (sFor (lL (dCal 0 F_all_steps aNil)) (gN 4) (sSeq (sTg (dCal 3 F_step_from (aCons (dV 0) (aCons (dOp gIx (dV 2) (dC (.int 0))) (aCons (dV 4) aNil)))) (gT 2 (glC (gN 5) (glC (gN 6) glN))))
    (sSeq (sTg (dCal 3 F_step_from (aCons (dV 1) (aCons (dOp gIx (dV 2) (dC (.int 1))) (aCons (dV 4) aNil)))) (gT 2 (glC (gN 7) (glC (gN 8) glN))))
    (sSeq (sIf (dT (dOp gNe (dV 5) (dV 7))) (sRet (dC .non)) sNil)
    (sApp 3 (dTup (aCons (dV 6) (aCons (dV 8) aNil))))))))
    (sRet (dV 3))))
def F_pairs_behind : List D → Option D := runP 9 S_pairs_behind
def S_pairs_met : SD := (sSeq (sSet 3 (dLst (aCons (dV 2) aNil)))
    (sSeq (sSet 4 (dLst aNil))
    (sSeq (sWh (dT (dNN (dV 3))) (sSeq (sSet 4 (dOp gAdd (dV 4) (dV 3)))
    (sSeq (sSet 6 (dDc [] [5] (lL (dV 4)) (gN 5) (dV 5) (dC (.bl true))))
    (sSeq (sSet 7 (dLst aNil))
    (sSeq (sFor (lL (dV 3)) (gN 5) (sSeq (sSet 8 (dCal 3 F_pairs_behind (aCons (dV 0) (aCons (dV 1) (aCons (dV 5) aNil)))))
    (sSeq (sIf (dT (dOp gIs (dV 8) (dC .non))) (sRet (dC .non)) sNil)
    (sExt 7 (dLc [7] [9] (lL (dV 8)) (gN 9) (dT (dOp (gInD true) (dV 9) (dV 6))) (dV 9))))))
    (sSet 3 (dCb gListD (aCons (dDc [] [5] (lL (dV 7)) (gN 5) (dV 5) (dC (.bl true))) aNil))))))) FU)
    (sRet (dV 4)))))
def F_pairs_met : List D → Option D := runP 10 S_pairs_met
def S_pairing_of : SD := (sSeq (sSet 2 (dCal 3 F_pairs_met (aCons (dV 0) (aCons (dV 1) (aCons (dTup (aCons (dTup (aCons (dC (.int 0)) aNil)) (aCons (dTup (aCons (dC (.int 0)) aNil)) aNil))) aNil)))))
    (sRet (dIf (dT (dOp gIs (dV 2) (dC .non))) (dC .non) (dCal 1 F_in_order (aCons (dV 2) aNil)))))
def F_pairing_of : List D → Option D := runP 3 S_pairing_of
def S_is_rest : SD := (sSeq (sIf (bOr (bNot (dT (dIsi "tuple" (dV 1)))) (bOr (bNot (dT (dChain gLe gLe (dC (.int 1)) (dCb gLen (aCons (dV 1) aNil)) (dC (.int 2))))) (bNot (dT (dCb gAll (aCons (dLc [] [3] (lT (dV 1)) (gN 3) bYes (dCal 1 F_is_integer (aCons (dV 3) aNil))) aNil)))))) (sRet (dC (.bl false))) sNil)
    (sRet (dAnd (dChain gLe gLt (dC (.int 0)) (dOp gIx (dV 1) (dC (.int 0))) (dCb gLen (aCons (dV 0) aNil))) (dCb gAll (aCons (dLc [] [2] (lT (dSl (dV 1) (oS (dC (.int 1))) oN)) (gN 2) bYes (dOp gLe (dCb gAbs (aCons (dV 2) aNil)) (dC (.int 6)))) aNil)))))
def F_is_rest : List D → Option D := runP 4 S_is_rest
def S_is_pair : SD := (sRet (dAnd (dIsi "tuple" (dV 2)) (dAnd (dOp gEq (dCb gLen (aCons (dV 2) aNil)) (dC (.int 2))) (dAnd (dCal 2 F_is_rest (aCons (dV 0) (aCons (dOp gIx (dV 2) (dC (.int 0))) aNil))) (dCal 2 F_is_rest (aCons (dV 1) (aCons (dOp gIx (dV 2) (dC (.int 1))) aNil)))))))
def F_is_pair : List D → Option D := runP 3 S_is_pair
def S_pairing_holds : SD := (sSeq (sIf (bOr (bNot (dT (dIsi "tuple" (dV 2)))) (bNot (dT (dCb gAll (aCons (dLc [] [3] (lT (dV 2)) (gN 3) bYes (dCal 3 F_is_pair (aCons (dV 0) (aCons (dV 1) (aCons (dV 3) aNil))))) aNil))))) (sRet (dC (.bl false))) sNil)
    (sSeq (sIf (bNot (dT (dCb gAll (aCons (dLc [] [6, 7] (lZ (aCons (dV 2) (aCons (dSl (dV 2) (oS (dC (.int 1))) oN) aNil))) (gT 2 (glC (gN 6) (glC (gN 7) glN))) bYes (dOp gLt (dV 6) (dV 7))) aNil)))) (sRet (dC (.bl false))) sNil)
    (sSeq (sSet 4 (dDc [] [3] (lT (dV 2)) (gN 3) (dV 3) (dC (.bl true))))
    (sSeq (sIf (dT (dOp (gInD true) (dTup (aCons (dTup (aCons (dC (.int 0)) aNil)) (aCons (dTup (aCons (dC (.int 0)) aNil)) aNil))) (dV 4))) (sRet (dC (.bl false))) sNil)
    (sSeq (sFor (lT (dV 2)) (gN 3) (sSeq (sSet 5 (dCal 3 F_pairs_behind (aCons (dV 0) (aCons (dV 1) (aCons (dV 3) aNil)))))
    (sIf (bOr (dT (dOp gIs (dV 5) (dC .non))) (bNot (dT (dCb gAll (aCons (dLc [] [8] (lL (dV 5)) (gN 8) bYes (dOp (gInD false) (dV 8) (dV 4))) aNil))))) (sRet (dC (.bl false))) sNil)))
    (sRet (dC (.bl true))))))))
def F_pairing_holds : List D → Option D := runP 9 S_pairing_holds
def F_law_spring : List D → Option (List D) := runF 5 (sTg (dTup (aCons (dC (.int 0)) (aCons (dC (.int 2925)) aNil))) (gT 2 (glC (gN 1) (glC (gN 2) glN))))
  (sFor (lL (dSlq (dV 0) oN (oS (dC (.int 63))))) (gN 3) (sSeq (sSet 4 (dOp gAdd (dOp gAdd (dOp gMul (dC (.int 2)) (dCb gAbs (aCons (dV 3) aNil))) (dCb gInt (aCons (dOp gLt (dV 3) (dC (.int 0))) aNil))) (dC (.int 1))))
    (sSeq (sSet 2 (dOp gMod (dCb gInt (aCons (dOp gAdd (dOp gMul (dV 2) (dC (.int 6364136223846793005))) (dV 4)) aNil)) (dC (.int 2305843009213693951))))
    (sIf (dT (dOp gGe (dCb gAbs (aCons (dV 3) aNil)) (dOp gPow (dC (.int 10)) (dC (.int 18))))) (sSet 1 (dOp gAdd (dOp gMul (dV 1) (dC (.int 37))) (dCb gAbs (aCons (dV 3) aNil)))) sNil))))
  (dLst (aCons (dV 1) (aCons (dV 2) (aCons (dC (.int 0)) aNil))))
def S_law_dip : SD := (sSeq (sIf (dT (dOp gGt (dO 0 (dC (.int 0)) gIx) (dC (.int 0)))) (sSeq (sSet 2 (dOp gMod (dCb gInt (aCons (dO 0 (dC (.int 0)) gIx) aNil)) (dV 1)))
    (sSeq (sTg (dOp gDiv (dO 0 (dC (.int 0)) gIx) (dV 1)) (gSto 0 (dC (.int 0))))
    (sRet (dV 2)))) sNil)
    (sSeq (sTg (dOp gAdd (dO 0 (dC (.int 2)) gIx) (dC (.int 1))) (gSto 0 (dC (.int 2))))
    (sSeq (sSet 3 (dOp gAdd (dOp gMul (dC (.int 3202034522624059733)) (dO 0 (dC (.int 2)) gIx)) (dC (.int 29))))
    (sSeq (sTg (dOp gMod (dCb gInt (aCons (dOp gAdd (dOp gMul (dO 0 (dC (.int 1)) gIx) (dC (.int 2862933555777941757))) (dV 3)) aNil)) (dC (.int 2305843009213693951))) (gSto 0 (dC (.int 1))))
    (sRet (dOp gMod (dCb gInt (aCons (dOp gDiv (dOp gMod (dCb gInt (aCons (dOp gMul (dO 0 (dC (.int 1)) gIx) (dO 0 (dC (.int 1)) gIx)) aNil)) (dC (.int 2305843009213693951))) (dC (.int 131071))) aNil)) (dV 1)))))))
def F_law_dip : List D → List D → Option (D × List D) := runS 4 S_law_dip
def S_law_pick : SD := (sRet (dOp gIx (dV 1) (dCS 0 2 F_law_dip (aCons (dCb gLen (aCons (dV 1) aNil)) aNil))))
def F_law_pick : List D → List D → Option (D × List D) := runS 2 S_law_pick
def S_law_range : SD := (sSeq (sSet 1 (dCS 0 2 F_law_dip (aCons (dC (.int 9)) aNil)))
    (sSeq (sSet 2 (dIf (dT (dOp gLt (dV 1) (dC (.int 6)))) (dOp gSub (dCS 0 2 F_law_dip (aCons (dC (.int 13)) aNil)) (dC (.int 6))) (dOp gAdd (dC (.int 1)) (dCS 0 2 F_law_dip (aCons (dC (.int 6)) aNil)))))
    (sSeq (sIf (dT (dOp gLt (dV 1) (dC (.int 3)))) (sRet (dOp gIx (dLst (aCons (dTup (aCons (dC .non) (aCons (dV 2) aNil))) (aCons (dTup (aCons (dV 2) (aCons (dC .non) aNil))) (aCons (dTup (aCons (dC .non) (aCons (dC .non) aNil))) aNil)))) (dV 1))) sNil)
    (sRet (dTup (aCons (dV 2) (aCons (dOp gAdd (dV 2) (dCS 0 2 F_law_dip (aCons (dOp gSub (dC (.int 7)) (dV 2)) aNil))) aNil)))))))
def F_law_range : List D → List D → Option (D × List D) := runS 3 S_law_range
def S_law_row : SD := (sSeq (sPar 2 3 (aCons (dCS 0 1 F_law_range aNil) (aCons (dC .non) aNil)))
    (sSeq (sIf (dT (dOp gEq (dCS 0 2 F_law_dip (aCons (dC (.int 3)) aNil)) (dC (.int 0)))) (sSet 3 (dCS 0 2 F_law_pick (aCons (dLst (aCons (dTup (aCons (dC (.int 1)) (aCons (dC (.int 1)) aNil))) (aCons (dTup (aCons (dC (.int 1)) (aCons (dC (.int 2)) aNil))) (aCons (dTup (aCons (dC (.int 0)) (aCons (dC (.int 0)) aNil))) (aCons (dTup (aCons (dNeg (dC (.int 1))) (aCons (dC (.int 1)) aNil))) (aCons (dCS 0 1 F_law_range aNil) aNil)))))) aNil))) sNil)
    (sSeq (sSet 4 (dCS 0 2 F_law_pick (aCons (dLst (aCons (dC (.str "take")) (aCons (dC (.str "take")) (aCons (dC (.str "keep")) (aCons (dC (.str "keep")) (aCons (dC (.str "leave")) (aCons (dC (.str "drop")) aNil))))))) aNil)))
    (sSeq (sIf (bAnd (dT (dOp gEq (dV 4) (dC (.str "keep")))) (dT (dOp (gIn false) (dC .non) (dV 2)))) (sSet 4 (dC (.str "leave"))) sNil)
    (sRet (dTup (aCons (dV 2) (aCons (dV 3) (aCons (dV 4) (aCons (dCS 0 2 F_law_dip (aCons (dV 1) aNil)) aNil))))))))))
def F_law_row : List D → List D → Option (D × List D) := runS 5 S_law_row
def S_law_window : SD := (sRet (dTup (aCons (dTup (aCons (dTup (aCons (dTup (aCons (dC (.int 1)) (aCons (dV 0) aNil))) (aCons (dC .non) (aCons (dC (.str "take")) (aCons (dC (.int 0)) aNil))))) aNil)) aNil)))
def F_law_window : List D → Option D := runP 1 S_law_window
def S_law_paired : SD := (sSeq (sParF 3 4 (dTup (aCons (dOp gAdd (dV 0) (dC (.int 1))) (aCons (dV 1) aNil))) (dLst aNil))
    (sSeq (sFor (lR (dV 2)) (gN 5) (sSeq (sSet 6 (dLst (aCons (dTup (aCons (dTup (aCons (dC (.int 1)) (aCons (dV 0) aNil))) (aCons (dC .non) (aCons (dC (.str "take")) (aCons (dC (.int 0)) aNil))))) aNil)))
    (sSeq (sIf (dT (dOp gGt (dV 5) (dC (.int 0)))) (sApp 6 (dIf (dT (dOp gEq (dV 5) (dOp gSub (dV 2) (dC (.int 1))))) (dTup (aCons (dV 3) (aCons (dTup (aCons (dC (.int 1)) (aCons (dC (.int 1)) aNil))) (aCons (dC (.str "take")) (aCons (dC (.int 0)) aNil))))) (dTup (aCons (dV 3) (aCons (dTup (aCons (dC (.int 1)) (aCons (dC (.int 1)) aNil))) (aCons (dC (.str "keep")) (aCons (dOp gAdd (dV 5) (dC (.int 1))) aNil))))))) sNil)
    (sApp 4 (dCb gTuple (aCons (dOp gAdd (dV 6) (dLst (aCons (dTup (aCons (dV 3) (aCons (dC .non) (aCons (dC (.str "keep")) (aCons (dC (.int 1)) aNil))))) aNil))) aNil))))))
    (sRet (dCb gTuple (aCons (dV 4) aNil)))))
def F_law_paired : List D → Option D := runP 7 S_law_paired
def S_law_receiver : SD := (sSeq (sSet 3 (dCS 0 2 F_law_dip (aCons (dC (.int 8)) aNil)))
    (sSeq (sIf (dT (dOp gEq (dV 3) (dC (.int 0)))) (sRet (dCal 1 F_law_window (aCons (dOp gAdd (dC (.int 1)) (dCS 0 2 F_law_dip (aCons (dC (.int 6)) aNil))) aNil))) sNil)
    (sSeq (sIf (bAnd (dT (dOp gEq (dV 3) (dC (.int 1)))) (bAnd (dT (dOp gGt (dV 1) (dC (.int 1)))) (dT (dOp gGt (dV 2) (dC (.int 2)))))) (sSeq (sSet 4 (dOp gAdd (dC (.int 1)) (dCS 0 2 F_law_dip (aCons (dC (.int 5)) aNil))))
    (sRet (dCal 3 F_law_paired (aCons (dV 4) (aCons (dOp gAdd (dOp gAdd (dV 4) (dC (.int 1))) (dCS 0 2 F_law_dip (aCons (dOp gSub (dC (.int 6)) (dV 4)) aNil))) (aCons (dOp gAdd (dC (.int 2)) (dCS 0 2 F_law_dip (aCons (dOp gSub (dV 1) (dC (.int 1))) aNil))) aNil)))))) sNil)
    (sSeq (sSet 5 (dOp gAdd (dC (.int 1)) (dCS 0 2 F_law_dip (aCons (dV 1) aNil))))
    (sSeq (sSet 6 (dLst aNil))
    (sSeq (sFor (lR (dV 5)) (gN 7) (sApp 6 (dCb gTuple (aCons (dLc [6, 0] [8] (lR (dCS 0 2 F_law_dip (aCons (dOp gAdd (dV 2) (dC (.int 1))) aNil))) (gN 8) bYes (dCS 0 2 F_law_row (aCons (dV 5) aNil))) aNil))))
    (sRet (dCb gTuple (aCons (dV 6) aNil)))))))))
def F_law_receiver : List D → List D → Option (D × List D) := runS 9 S_law_receiver
def S_law_lies : SD := (sRet (dAnd (dOr (dOp gIs (dOp gIx (dV 1) (dC (.int 0))) (dC .non)) (dOp gGe (dV 0) (dOp gIx (dV 1) (dC (.int 0))))) (dOr (dOp gIs (dOp gIx (dV 1) (dC (.int 1))) (dC .non)) (dOp gLe (dV 0) (dOp gIx (dV 1) (dC (.int 1)))))))
def F_law_lies : List D → Option D := runP 2 S_law_lies
def S_law_counting : SD := (sSeq (sFor (lR (dCb gLen (aCons (dOp gIx (dV 0) (dOp gIx (dV 1) (dC (.int 0)))) aNil))) (gN 3) (sSeq (sTg (dSl (dOp gIx (dOp gIx (dV 0) (dOp gIx (dV 1) (dC (.int 0)))) (dV 3)) oN (oS (dC (.int 2)))) (gT 2 (glC (gN 4) (glC (gN 5) glN))))
    (sIf (dT (dCal 2 F_law_lies (aCons (dV 2) (aCons (dV 4) aNil)))) (sIf (bOr (dT (dOp gIs (dV 5) (dC .non))) (bAnd (dT (dOp gGt (dCb gLen (aCons (dV 1) aNil)) (dC (.int 1)))) (dT (dCal 2 F_law_lies (aCons (dOp gSub (dV 2) (dOp gIx (dV 1) (dC (.int 1)))) (aCons (dV 5) aNil)))))) (sRet (dV 3)) sNil) sNil)))
    (sRet (dC .non)))
def F_law_counting : List D → Option D := runP 6 S_law_counting
def S_law_step : SD := (sSeq (sSet 3 (dCal 3 F_law_counting (aCons (dV 0) (aCons (dV 1) (aCons (dV 2) aNil)))))
    (sSeq (sIf (dT (dOp gIs (dV 3) (dC .non))) (sRet (dTup (aCons (dC (.bl false)) (aCons (dV 1) aNil)))) sNil)
    (sSeq (sTg (dSl (dOp gIx (dOp gIx (dV 0) (dOp gIx (dV 1) (dC (.int 0)))) (dV 3)) (oS (dC (.int 2))) oN) (gT 2 (glC (gN 4) (glC (gN 5) glN))))
    (sSeq (sIf (dT (dOp gEq (dV 4) (dC (.str "keep")))) (sRet (dTup (aCons (dC (.bl false)) (aCons (dTup (aCons (dV 5) (aCons (dV 2) aNil))) aNil)))) sNil)
    (sRet (dTup (aCons (dOp gEq (dV 4) (dC (.str "take"))) (aCons (dOp gAdd (dTup (aCons (dV 5) aNil)) (dIf (dT (dOp gEq (dV 4) (dC (.str "leave")))) (dSl (dV 1) (oS (dC (.int 1))) oN) (dTup aNil))) aNil))))))))
def F_law_step : List D → Option D := runP 6 S_law_step
def S_law_rest : SD := (sRet (dIf (dT (dOp gIs (dOp gIx (dV 0) (dC (.int 2))) (dC .non))) (dTup (aCons (dOp gIx (dV 0) (dC (.int 0))) aNil)) (dTup (aCons (dOp gIx (dV 0) (dC (.int 0))) (aCons (dOp gSub (dOp gIx (dV 0) (dC (.int 2))) (dOp gIx (dV 0) (dC (.int 1)))) aNil)))))
def F_law_rest : List D → Option D := runP 1 S_law_rest
def S_law_heard : SD := (sSeq (sTg (dCal 3 F_law_step (aCons (dV 0) (aCons (dCal 1 F_law_rest (aCons (dV 1) aNil)) (aCons (dOp gSub (dV 2) (dOp gIx (dV 1) (dC (.int 1)))) aNil)))) (gT 2 (glC (gN 3) (glC (gN 4) glN))))
    (sSeq (sSet 5 (dIf (dT (dV 3)) (dV 2) (dOp gIx (dV 1) (dC (.int 1)))))
    (sRet (dTup (aCons (dV 3) (aCons (dTup (aCons (dOp gIx (dV 4) (dC (.int 0))) (aCons (dV 5) (aCons (dIf (dT (dOp gEq (dCb gLen (aCons (dV 4) aNil)) (dC (.int 1)))) (dC .non) (dOp gAdd (dV 5) (dOp gIx (dV 4) (dC (.int 1))))) aNil)))) aNil))))))
def F_law_heard : List D → Option D := runP 6 S_law_heard
def S_law_numbers : SD := (sSeq (sParF 4 5 (dTup (aCons (dC (.int 0)) (aCons (dV 2) (aCons (dC .non) aNil)))) (dLst aNil))
    (sSeq (sFor (lR (dCS 0 2 F_law_dip (aCons (dOp gAdd (dV 3) (dC (.int 1))) aNil))) (gN 6) (sSeq (sSet 7 (dCS 0 2 F_law_dip (aCons (dC (.int 9)) aNil)))
    (sSeq (sIf (dT (dOp gEq (dV 7) (dC (.int 0)))) (sSet 8 (dOp gAdd (dOp gIx (dV 4) (dC (.int 1))) (dCS 0 2 F_law_pick (aCons (dLst (aCons (dNeg (dOp gPow (dC (.int 10)) (dC (.int 20)))) (aCons (dNeg (dC (.int 14))) (aCons (dNeg (dC (.int 13))) (aCons (dNeg (dC (.int 7))) (aCons (dC (.int 7)) (aCons (dC (.int 13)) (aCons (dC (.int 14)) (aCons (dOp gPow (dC (.int 10)) (dC (.int 20))) aNil))))))))) aNil)))) (sIf (bAnd (dT (dOp gEq (dV 7) (dC (.int 1)))) (dT (dOwn 5 kNN))) (sSet 8 (dO 5 (dNeg (dC (.int 1))) gIx)) (sIf (bAnd (dT (dOp gLt (dV 7) (dC (.int 4)))) (dT (dOp gIsNot (dOp gIx (dV 4) (dC (.int 2))) (dC .non)))) (sSet 8 (dOp gSub (dOp gAdd (dOp gIx (dV 4) (dC (.int 2))) (dCS 0 2 F_law_dip (aCons (dC (.int 5)) aNil))) (dC (.int 1)))) (sSet 8 (dOp gAdd (dOp gIx (dV 4) (dC (.int 1))) (dIf (dT (dOp gLt (dV 7) (dC (.int 6)))) (dOp gSub (dCS 0 2 F_law_dip (aCons (dC (.int 15)) aNil)) (dC (.int 7))) (dOp gAdd (dC (.int 1)) (dCS 0 2 F_law_dip (aCons (dC (.int 7)) aNil)))))))))
    (sSeq (sApp 5 (dV 8))
    (sSet 4 (dOp gIx (dCal 3 F_law_heard (aCons (dV 1) (aCons (dV 4) (aCons (dV 8) aNil)))) (dC (.int 1))))))))
    (sRet (dCb gTuple (aCons (dV 5) aNil)))))
def F_law_numbers : List D → List D → Option (D × List D) := runS 9 S_law_numbers
def S_law_swapped : SD := (sSeq (sSet 3 (dLr (r1 (dCb gLen (aCons (dV 0) aNil)))))
    (sSeq (sTg (dTup (aCons (dV 2) (aCons (dV 1) aNil))) (gT 2 (glC (gSto 3 (dV 1)) (glC (gSto 3 (dV 2)) glN))))
    (sSeq (sSet 4 (dLst aNil))
    (sSeq (sFor (lL (dV 3)) (gN 5) (sApp 4 (dCb gTuple (aCons (dLc [4] [6] (lT (dOp gIx (dV 0) (dV 5))) (gN 6) bYes (dOp gAdd (dSl (dV 6) oN (oS (dC (.int 3)))) (dTup (aCons (dOp gIx (dV 3) (dOp gIx (dV 6) (dC (.int 3)))) aNil)))) aNil))))
    (sRet (dCb gTuple (aCons (dV 4) aNil)))))))
def F_law_swapped : List D → Option D := runP 7 S_law_swapped
def S_law_led : SD := (sRet (dOp gAdd (dSl (dV 0) oN (oS (dC (.int 3)))) (dTup (aCons (dV 1) aNil))))
def F_law_led : List D → Option D := runP 2 S_law_led
def S_law_shaped : SD := (sSeq (sTg (dTup (aCons (dCS 0 2 F_law_dip (aCons (dC (.int 4)) aNil)) (aCons (dCS 0 2 F_law_dip (aCons (dCb gLen (aCons (dV 1) aNil)) aNil)) aNil))) (gT 2 (glC (gN 2) (glC (gN 3) glN))))
    (sSeq (sSet 4 (dOp gIx (dV 1) (dV 3)))
    (sSeq (sIf (bAnd (dT (dOp gEq (dV 2) (dC (.int 0)))) (dT (dChain gLt gLt (dC (.int 0)) (dCb gLen (aCons (dV 4) aNil)) (dC (.int 6))))) (sSeq (sSet 5 (dOp gAdd (dSl (dOp gIx (dV 4) (dCS 0 2 F_law_dip (aCons (dCb gLen (aCons (dV 4) aNil)) aNil))) oN (oS (dC (.int 2)))) (dSl (dCS 0 2 F_law_row (aCons (dCb gLen (aCons (dV 1) aNil)) aNil)) (oS (dC (.int 2))) oN)))
    (sSeq (sSet 5 (dIf (bAnd (dT (dOp (gIn false) (dC .non) (dOp gIx (dV 5) (dC (.int 0))))) (dT (dOp gEq (dOp gIx (dV 5) (dC (.int 2))) (dC (.str "keep"))))) (dOp gAdd (dOp gAdd (dSl (dV 5) oN (oS (dC (.int 2)))) (dTup (aCons (dC (.str "leave")) aNil))) (dSl (dV 5) (oS (dC (.int 3))) oN)) (dV 5)))
    (sRet (dOp gAdd (dOp gAdd (dSl (dV 1) oN (oS (dV 3))) (dTup (aCons (dOp gAdd (dV 4) (dTup (aCons (dV 5) aNil))) aNil))) (dSl (dV 1) (oS (dOp gAdd (dV 3) (dC (.int 1)))) oN))))) sNil)
    (sSeq (sIf (bAnd (dT (dOp gEq (dV 2) (dC (.int 1)))) (dT (dOp gLt (dCb gLen (aCons (dV 4) aNil)) (dC (.int 6))))) (sRet (dOp gAdd (dOp gAdd (dSl (dV 1) oN (oS (dV 3))) (dTup (aCons (dOp gAdd (dV 4) (dTup (aCons (dTup (aCons (dTup (aCons (dC .non) (aCons (dC .non) aNil))) (aCons (dC .non) (aCons (dC (.str "leave")) (aCons (dV 3) aNil))))) aNil))) aNil))) (dSl (dV 1) (oS (dOp gAdd (dV 3) (dC (.int 1)))) oN))) sNil)
    (sSeq (sIf (bAnd (dT (dOp gEq (dV 2) (dC (.int 2)))) (dT (dOp gGt (dCb gLen (aCons (dV 1) aNil)) (dC (.int 2))))) (sSeq (sSet 6 (dOp gAdd (dC (.int 1)) (dCS 0 2 F_law_dip (aCons (dOp gSub (dCb gLen (aCons (dV 1) aNil)) (dC (.int 1))) aNil))))
    (sRet (dCal 3 F_law_swapped (aCons (dV 1) (aCons (dV 6) (aCons (dOp gAdd (dC (.int 1)) (dCS 0 2 F_law_dip (aCons (dOp gSub (dCb gLen (aCons (dV 1) aNil)) (dC (.int 1))) aNil))) aNil)))))) sNil)
    (sSeq (sIf (bAnd (dT (dOp gEq (dV 2) (dC (.int 3)))) (dT (dOp gLt (dCb gLen (aCons (dV 1) aNil)) (dC (.int 4))))) (sSeq (sSet 7 (dLst aNil))
    (sSeq (sFor (lT (dOp gAdd (dV 1) (dTup (aCons (dV 4) aNil)))) (gN 4) (sSeq (sSet 8 (dLc [7, 0] [10] (lT (dV 4)) (gN 10) bYes (dAnd (dOp gEq (dCS 0 2 F_law_dip (aCons (dC (.int 2)) aNil)) (dC (.int 0))) (dOp gEq (dOp gIx (dV 10) (dC (.int 3))) (dV 3)))))
    (sSeq (sSet 9 (dLc [7, 0] [11] (lR (dCb gLen (aCons (dV 4) aNil))) (gN 11) bYes (dIf (dT (dOp gIx (dV 8) (dV 11))) (dCb gLen (aCons (dV 1) aNil)) (dOp gIx (dOp gIx (dV 4) (dV 11)) (dC (.int 3))))))
    (sApp 7 (dCb gTuple (aCons (dLc [7, 0] [11] (lR (dCb gLen (aCons (dV 4) aNil))) (gN 11) bYes (dCal 2 F_law_led (aCons (dOp gIx (dV 4) (dV 11)) (aCons (dOp gIx (dV 9) (dV 11)) aNil)))) aNil))))))
    (sRet (dCb gTuple (aCons (dV 7) aNil))))) sNil)
    (sRet (dV 1))))))))
def F_law_shaped : List D → List D → Option (D × List D) := runS 12 S_law_shaped
def S_law_varied : SD := (sSeq (sSet 2 (dCS 0 2 F_law_dip (aCons (dCb gLen (aCons (dV 1) aNil)) aNil)))
    (sSeq (sPar 3 4 (aCons (dOp gIx (dV 1) (dV 2)) (aCons (dCS 0 2 F_law_dip (aCons (dC (.int 4)) aNil)) aNil)))
    (sSeq (sSet 5 (dCS 0 2 F_law_dip (aCons (dOp gAdd (dCb gLen (aCons (dV 3) aNil)) (dC (.int 1))) aNil)))
    (sSeq (sIf (bAnd (dT (dOp gEq (dV 4) (dC (.int 0)))) (dT (dOp gNe (dV 3) (dTup aNil)))) (sSeq (sSet 5 (dCb gMin (aCons (dV 5) (aCons (dOp gSub (dCb gLen (aCons (dV 3) aNil)) (dC (.int 1))) aNil))))
    (sSet 3 (dOp gAdd (dSl (dV 3) oN (oS (dV 5))) (dSl (dV 3) (oS (dOp gAdd (dV 5) (dC (.int 1)))) oN)))) (sIf (bAnd (dT (dOp gEq (dV 4) (dC (.int 1)))) (dT (dOp gNe (dV 3) (dTup aNil)))) (sSeq (sSet 5 (dCb gMin (aCons (dV 5) (aCons (dOp gSub (dCb gLen (aCons (dV 3) aNil)) (dC (.int 1))) aNil))))
    (sSet 3 (dOp gAdd (dOp gAdd (dSl (dV 3) oN (oS (dV 5))) (dTup (aCons (dCS 0 2 F_law_row (aCons (dCb gLen (aCons (dV 1) aNil)) aNil)) aNil))) (dSl (dV 3) (oS (dOp gAdd (dV 5) (dC (.int 1)))) oN)))) (sIf (dT (dOp gLt (dCb gLen (aCons (dV 3) aNil)) (dC (.int 6)))) (sSet 3 (dOp gAdd (dOp gAdd (dSl (dV 3) oN (oS (dV 5))) (dTup (aCons (dCS 0 2 F_law_row (aCons (dCb gLen (aCons (dV 1) aNil)) aNil)) aNil))) (dSl (dV 3) (oS (dV 5)) oN))) sNil)))
    (sRet (dOp gAdd (dOp gAdd (dSl (dV 1) oN (oS (dV 2))) (dTup (aCons (dV 3) aNil))) (dSl (dV 1) (oS (dOp gAdd (dV 2) (dC (.int 1)))) oN)))))))
def F_law_varied : List D → List D → Option (D × List D) := runS 6 S_law_varied
def S_law_rising : SD := (sSeq (sParF 2 3 (dC (.int 0)) (dLst aNil))
    (sSeq (sFor (lR (dCS 0 2 F_law_dip (aCons (dOp gAdd (dV 1) (dC (.int 1))) aNil))) (gN 4) (sSeq (sSet 2 (dOp gAdd (dOp gAdd (dV 2) (dC (.int 1))) (dCS 0 2 F_law_pick (aCons (dLst (aCons (dC (.int 0)) (aCons (dC (.int 0)) (aCons (dC (.int 0)) (aCons (dC (.int 1)) (aCons (dC (.int 2)) (aCons (dCS 0 2 F_law_dip (aCons (dC (.int 7)) aNil)) (aCons (dC (.int 13)) (aCons (dOp gPow (dC (.int 10)) (dC (.int 20))) aNil))))))))) aNil))))
    (sApp 3 (dV 2))))
    (sRet (dCb gTuple (aCons (dV 3) aNil)))))
def F_law_rising : List D → List D → Option (D × List D) := runS 5 S_law_rising
def S_law_two : SD := (sSeq (sPar 3 4 (aCons (dCS 0 3 F_law_receiver (aCons (dV 1) (aCons (dV 2) aNil))) (aCons (dCS 0 2 F_law_dip (aCons (dC (.int 5)) aNil)) aNil)))
    (sSeq (sIf (dT (dOp gEq (dV 4) (dC (.int 0)))) (sRet (dLst (aCons (dV 3) (aCons (dCS 0 3 F_law_receiver (aCons (dV 1) (aCons (dV 2) aNil))) aNil)))) sNil)
    (sSeq (sIf (dT (dOp gEq (dV 4) (dC (.int 1)))) (sRet (dLst (aCons (dV 3) (aCons (dCS 0 2 F_law_shaped (aCons (dV 3) aNil)) aNil)))) sNil)
    (sSeq (sSet 5 (dCS 0 2 F_law_varied (aCons (dV 3) aNil)))
    (sRet (dLst (aCons (dV 3) (aCons (dIf (dT (dOp gLt (dV 4) (dC (.int 4)))) (dV 5) (dCS 0 2 F_law_shaped (aCons (dV 5) aNil))) aNil))))))))
def F_law_two : List D → List D → Option (D × List D) := runS 6 S_law_two
def S_law_wider : SD := (sSeq (sSet 2 (dCS 0 2 F_law_dip (aCons (dCb gLen (aCons (dV 1) aNil)) aNil)))
    (sSeq (sSet 3 (dOp gIx (dV 1) (dV 2)))
    (sSeq (sIf (dT (dOp gGt (dCb gLen (aCons (dV 3) aNil)) (dC (.int 5)))) (sRet (dV 1)) sNil)
    (sSeq (sSet 4 (dTup (aCons (dCS 0 1 F_law_range aNil) (aCons (dC .non) (aCons (dC (.str "take")) (aCons (dCS 0 2 F_law_dip (aCons (dCb gLen (aCons (dV 1) aNil)) aNil)) aNil))))))
    (sRet (dOp gAdd (dOp gAdd (dSl (dV 1) oN (oS (dV 2))) (dTup (aCons (dOp gAdd (dV 3) (dTup (aCons (dV 4) aNil))) aNil))) (dSl (dV 1) (oS (dOp gAdd (dV 2) (dC (.int 1)))) oN)))))))
def F_law_wider : List D → List D → Option (D × List D) := runS 5 S_law_wider
def S_law_first_unlike : SD := (sSeq (sTg (dTup (aCons (dCalD 3 (.int 0) F_answers (aCons (dV 0) (aCons (dV 2) aNil))) (aCons (dCalD 3 (.int 0) F_answers (aCons (dV 1) (aCons (dV 2) aNil))) aNil))) (gT 2 (glC (gN 3) (glC (gN 4) glN))))
    (sSeq (sSet 5 (dLc [] [6] (lR (dCb gLen (aCons (dV 2) aNil))) (gN 6) (dT (dOp gNe (dOp gIx (dV 3) (dV 6)) (dOp gIx (dV 4) (dV 6)))) (dV 6)))
    (sRet (dIf (dT (dNN (dV 5))) (dOp gIx (dV 5) (dC (.int 0))) (dC .non)))))
def F_law_first_unlike : List D → Option D := runP 7 S_law_first_unlike
def S_law_rows_right : SD := (sSeq (sPar 4 5 (aCons (dCalN 2 F_parting (aCons (dV 1) (aCons (dV 2) aNil)) (dV 3)) (aCons (dCalN 2 F_below (aCons (dV 1) (aCons (dV 2) aNil)) (dV 3)) aNil)))
    (sSeq (sFor (lR (dC (.int 4))) (gN 6) (sSeq (sSet 7 (dIf (dT (dV 3)) (dCS 0 2 F_law_rising (aCons (dC (.int 6)) aNil)) (dCS 0 4 F_law_numbers (aCons (dV 1) (aCons (dC (.int 0)) (aCons (dC (.int 7)) aNil))))))
    (sSeq (sSet 8 (dCal 3 F_law_first_unlike (aCons (dV 1) (aCons (dV 2) (aCons (dV 7) aNil)))))
    (sSeq (sIf (bAnd (dT (dOp gIsNot (dV 8) (dC .non))) (bOr (dT (dOp gIs (dV 4) (dC .non))) (dT (dOp gGt (dCb gLen (aCons (dV 4) aNil)) (dOp gAdd (dV 8) (dC (.int 1))))))) (sRet (dC (.bl false))) sNil)
    (sIf (bAnd (dT (dOp gIsNot (dV 8) (dC .non))) (bAnd (dT (dV 5)) (bNot (dT (dOp gIx (dCalD 3 (.int 0) F_answers (aCons (dV 2) (aCons (dV 7) aNil))) (dV 8)))))) (sRet (dC (.bl false))) sNil)))))
    (sRet (dOr (dOp gIs (dV 4) (dC .non)) (dOp gIs (dCalN 3 F_parting_holds (aCons (dV 1) (aCons (dV 2) (aCons (dV 4) aNil))) (dV 3)) (dC (.bl true)))))))
def F_law_rows_right : List D → List D → Option (D × List D) := runS 9 S_law_rows_right
def S_law_two_right : SD := (sSeq (sPar 2 3 (aCons (dCalD 3 (.bl false) F_alike (aCons (dV 0) (aCons (dV 1) aNil))) (aCons (dCal 2 F_pairing_of (aCons (dV 0) (aCons (dV 1) aNil))) aNil)))
    (sSeq (sIf (bOr (dT (dOp gNe (dAnd (dCalD 3 (.bl false) F_below (aCons (dV 0) (aCons (dV 1) aNil))) (dCalD 3 (.bl false) F_below (aCons (dV 1) (aCons (dV 0) aNil)))) (dV 2))) (dT (dOp gNe (dOp gIs (dCalD 3 (.bl false) F_parting (aCons (dV 0) (aCons (dV 1) aNil))) (dC .non)) (dV 2)))) (sRet (dC (.bl false))) sNil)
    (sSeq (sIf (bOr (dT (dOp gNe (dOp gIsNot (dV 3) (dC .non)) (dV 2))) (bAnd (dT (dV 2)) (dT (dOp gIsNot (dCal 3 F_pairing_holds (aCons (dV 0) (aCons (dV 1) (aCons (dV 3) aNil)))) (dC (.bl true)))))) (sRet (dC (.bl false))) sNil)
    (sSeq (sIf (bAnd (dT (dV 2)) (bNot (dT (dCalN 2 F_alike (aCons (dV 0) (aCons (dV 1) aNil)) (dC (.bl true)))))) (sRet (dC (.bl false))) sNil)
    (sSeq (sIf (bAnd (dT (dCalD 3 (.bl false) F_below (aCons (dV 0) (aCons (dV 1) aNil)))) (bNot (dT (dCalN 2 F_below (aCons (dV 0) (aCons (dV 1) aNil)) (dC (.bl true)))))) (sRet (dC (.bl false))) sNil)
    (sRet (dOp gEq (dAnd (dCalN 2 F_below (aCons (dV 0) (aCons (dV 1) aNil)) (dC (.bl true))) (dCalN 2 F_below (aCons (dV 1) (aCons (dV 0) aNil)) (dC (.bl true)))) (dCalN 2 F_alike (aCons (dV 0) (aCons (dV 1) aNil)) (dC (.bl true))))))))))
def F_law_two_right : List D → Option D := runP 4 S_law_two_right
def S_law : SD := (sSeq (sSet 1 (dCalF 1 F_law_spring (aCons (dV 0) aNil)))
    (sSeq (sFor (lR (dC (.int 2))) (gN 2) (sSeq (sTg (dCS 1 3 F_law_two (aCons (dC (.int 3)) (aCons (dC (.int 4)) aNil))) (gTl 2 (glC (gN 3) (glC (gN 4) glN))))
    (sSeq (sSet 4 (dIf (dT (dOp gEq (dCS 1 2 F_law_dip (aCons (dC (.int 2)) aNil)) (dC (.int 0)))) (dCS 1 2 F_law_wider (aCons (dV 4) aNil)) (dV 4)))
    (sSeq (sSet 5 (dCS 1 2 F_law_wider (aCons (dCS 1 2 F_law_shaped (aCons (dV 4) aNil)) aNil)))
    (sSeq (sFor (lL (dLst (aCons (dTup (aCons (dV 3) (aCons (dV 4) aNil))) (aCons (dTup (aCons (dV 4) (aCons (dV 5) aNil))) (aCons (dTup (aCons (dV 5) (aCons (dV 3) aNil))) aNil))))) (gN 6) (sIf (bOr (bNot (dT (dCal 2 F_law_two_right (aCons (dOp gIx (dV 6) (dC (.int 0))) (aCons (dOp gIx (dV 6) (dC (.int 1))) aNil))))) (bNot (dT (dCS 1 4 F_law_rows_right (aCons (dOp gIx (dV 6) (dC (.int 0))) (aCons (dOp gIx (dV 6) (dC (.int 1))) (aCons (dOp gEq (dV 2) (dC (.int 1))) aNil))))))) (sRet (dC (.bl false))) sNil))
    (sFor (lL (dLst (aCons (dC (.bl false)) (aCons (dC (.bl true)) aNil)))) (gN 7) (sSeq (sIf (bNot (dT (dCalN 2 F_below (aCons (dV 4) (aCons (dV 5) aNil)) (dV 7)))) (sRet (dC (.bl false))) sNil)
    (sIf (bAnd (dT (dCalN 2 F_below (aCons (dV 3) (aCons (dV 4) aNil)) (dV 7))) (bNot (dT (dCalN 2 F_below (aCons (dV 3) (aCons (dV 5) aNil)) (dV 7))))) (sRet (dC (.bl false))) sNil))))))))
    (sRet (dC (.bl true)))))
def F_law : List D → Option D := runP 8 S_law
end DL
end
section
set_option Elab.async false
set_option linter.all false
set_option maxRecDepth 100000
set_option maxHeartbeats 4000000
set_option autoImplicit false
/-! The text: its defs as data, the facts that hold behind the top. Printed by gen.py. -/
namespace DL
open PySem PySem.Spec
open PyProof.Rows hiding St
open L2

def topS (i : Nat) : Stmt := (PySem.Challenge.pw_lateposts_k23_whole_order_of_receivers).main.body.getD i (.Pass ⟨0, 0, 0, 0⟩)
def clsB : Stmt → List Stmt
  | .ClassDef (body := b) .. => b
  | _ => []
abbrev s_greater : Stmt := topS 2
abbrev s_lesser : Stmt := topS 3
abbrev s_place_of : Stmt := topS 4
abbrev s_merged : Stmt := topS 5
abbrev s_in_order : Stmt := topS 6
abbrev s_is_integer : Stmt := topS 8
abbrev s_rest_of : Stmt := topS 11
abbrev s_lies_in : Stmt := topS 12
abbrev s_counting_row : Stmt := topS 13
abbrev s_step_from : Stmt := topS 14
abbrev s_all_steps : Stmt := topS 15
abbrev s_rests_met : Stmt := topS 16
abbrev s_table_of : Stmt := topS 18
abbrev s_classes_of : Stmt := topS 19
abbrev s_runs_of : Stmt := topS 20
abbrev s_least_of : Stmt := topS 21
abbrev s_form_of : Stmt := topS 22
abbrev s_run_at : Stmt := topS 23
abbrev s_hear : Stmt := topS 25
abbrev s_beginning : Stmt := topS 26
abbrev s_walked : Stmt := topS 27
abbrev s_answers : Stmt := topS 28
abbrev s_next_steps : Stmt := topS 30
abbrev s_ahead_behind : Stmt := topS 31
abbrev s_nodeinit : Stmt := (clsB (topS 32)).getD 0 (.Pass ⟨0, 0, 0, 0⟩)
abbrev s_road : Stmt := (clsB (topS 32)).getD 1 (.Pass ⟨0, 0, 0, 0⟩)
abbrev s_numbers_by : Stmt := topS 33
abbrev s_nodes_from : Stmt := topS 34
abbrev s_all_nodes : Stmt := topS 35
abbrev s_parting : Stmt := topS 37
abbrev s_alike : Stmt := topS 38
abbrev s_is_rising : Stmt := topS 39
abbrev s_are_numbers : Stmt := topS 40
abbrev s_parting_holds : Stmt := topS 41
abbrev s_keys_behind : Stmt := topS 42
abbrev s_below : Stmt := topS 43
abbrev s_pairs_behind : Stmt := topS 44
abbrev s_pairs_met : Stmt := topS 45
abbrev s_pairing_of : Stmt := topS 46
abbrev s_is_rest : Stmt := topS 47
abbrev s_is_pair : Stmt := topS 48
abbrev s_pairing_holds : Stmt := topS 49
abbrev s_law_spring : Stmt := topS 51
abbrev s_law_dip : Stmt := topS 52
abbrev s_law_pick : Stmt := topS 53
abbrev s_law_range : Stmt := topS 54
abbrev s_law_row : Stmt := topS 55
abbrev s_law_window : Stmt := topS 56
abbrev s_law_paired : Stmt := topS 57
abbrev s_law_receiver : Stmt := topS 58
abbrev s_law_lies : Stmt := topS 59
abbrev s_law_counting : Stmt := topS 60
abbrev s_law_step : Stmt := topS 61
abbrev s_law_rest : Stmt := topS 62
abbrev s_law_heard : Stmt := topS 63
abbrev s_law_numbers : Stmt := topS 64
abbrev s_law_swapped : Stmt := topS 65
abbrev s_law_led : Stmt := topS 66
abbrev s_law_shaped : Stmt := topS 67
abbrev s_law_varied : Stmt := topS 68
abbrev s_law_rising : Stmt := topS 69
abbrev s_law_two : Stmt := topS 70
abbrev s_law_wider : Stmt := topS 71
abbrev s_law_first_unlike : Stmt := topS 72
abbrev s_law_rows_right : Stmt := topS 73
abbrev s_law_two_right : Stmt := topS 74
abbrev s_law : Stmt := topS 75
abbrev d_greater : He.DefD := ⟨("greater", none), "greater", "greater", defArgs s_greater, defBody s_greater, defScope s_greater, [], []⟩
abbrev d_lesser : He.DefD := ⟨("lesser", none), "lesser", "lesser", defArgs s_lesser, defBody s_lesser, defScope s_lesser, [], []⟩
abbrev d_place_of : He.DefD := ⟨("place_of", none), "place_of", "place_of", defArgs s_place_of, defBody s_place_of, defScope s_place_of, [], []⟩
abbrev d_merged : He.DefD := ⟨("merged", none), "merged", "merged", defArgs s_merged, defBody s_merged, defScope s_merged, [], []⟩
abbrev d_in_order : He.DefD := ⟨("in_order", none), "in_order", "in_order", defArgs s_in_order, defBody s_in_order, defScope s_in_order, [], []⟩
abbrev d_is_integer : He.DefD := ⟨("is_integer", none), "is_integer", "is_integer", defArgs s_is_integer, defBody s_is_integer, defScope s_is_integer, [], []⟩
abbrev d_rest_of : He.DefD := ⟨("rest_of", none), "rest_of", "rest_of", defArgs s_rest_of, defBody s_rest_of, defScope s_rest_of, [], []⟩
abbrev d_lies_in : He.DefD := ⟨("lies_in", none), "lies_in", "lies_in", defArgs s_lies_in, defBody s_lies_in, defScope s_lies_in, [], []⟩
abbrev d_counting_row : He.DefD := ⟨("counting_row", none), "counting_row", "counting_row", defArgs s_counting_row, defBody s_counting_row, defScope s_counting_row, [], []⟩
abbrev d_step_from : He.DefD := ⟨("step_from", none), "step_from", "step_from", defArgs s_step_from, defBody s_step_from, defScope s_step_from, [], []⟩
abbrev d_all_steps : He.DefD := ⟨("all_steps", none), "all_steps", "all_steps", defArgs s_all_steps, defBody s_all_steps, defScope s_all_steps, [], []⟩
abbrev d_rests_met : He.DefD := ⟨("rests_met", none), "rests_met", "rests_met", defArgs s_rests_met, defBody s_rests_met, defScope s_rests_met, [], []⟩
abbrev d_table_of : He.DefD := ⟨("table_of", none), "table_of", "table_of", defArgs s_table_of, defBody s_table_of, defScope s_table_of, [], []⟩
abbrev d_classes_of : He.DefD := ⟨("classes_of", none), "classes_of", "classes_of", defArgs s_classes_of, defBody s_classes_of, defScope s_classes_of, [], []⟩
abbrev d_runs_of : He.DefD := ⟨("runs_of", none), "runs_of", "runs_of", defArgs s_runs_of, defBody s_runs_of, defScope s_runs_of, [], []⟩
abbrev d_least_of : He.DefD := ⟨("least_of", none), "least_of", "least_of", defArgs s_least_of, defBody s_least_of, defScope s_least_of, [], []⟩
abbrev d_form_of : He.DefD := ⟨("form_of", none), "form_of", "form_of", defArgs s_form_of, defBody s_form_of, defScope s_form_of, [], []⟩
abbrev d_run_at : He.DefD := ⟨("run_at", none), "run_at", "run_at", defArgs s_run_at, defBody s_run_at, defScope s_run_at, [], []⟩
abbrev d_hear : He.DefD := ⟨("hear", none), "hear", "hear", defArgs s_hear, defBody s_hear, defScope s_hear, [], []⟩
abbrev d_beginning : He.DefD := ⟨("beginning", none), "beginning", "beginning", defArgs s_beginning, defBody s_beginning, defScope s_beginning, [], []⟩
abbrev d_walked : He.DefD := ⟨("walked", none), "walked", "walked", defArgs s_walked, defBody s_walked, defScope s_walked, [], []⟩
abbrev d_answers : He.DefD := ⟨("answers", none), "answers", "answers", defArgs s_answers, defBody s_answers, defScope s_answers, [], [("last", .int 0)]⟩
abbrev d_next_steps : He.DefD := ⟨("next_steps", none), "next_steps", "next_steps", defArgs s_next_steps, defBody s_next_steps, defScope s_next_steps, [], []⟩
abbrev d_ahead_behind : He.DefD := ⟨("ahead_behind", none), "ahead_behind", "ahead_behind", defArgs s_ahead_behind, defBody s_ahead_behind, defScope s_ahead_behind, [], []⟩
abbrev d_nodeinit : He.DefD := ⟨("Node", some "__init__"), "__init__", "Node.__init__", defArgs s_nodeinit, defBody s_nodeinit, defScope s_nodeinit, [], []⟩
abbrev d_road : He.DefD := ⟨("Node", some "road"), "road", "Node.road", defArgs s_road, defBody s_road, defScope s_road, [], []⟩
abbrev d_numbers_by : He.DefD := ⟨("numbers_by", none), "numbers_by", "numbers_by", defArgs s_numbers_by, defBody s_numbers_by, defScope s_numbers_by, [], []⟩
abbrev d_nodes_from : He.DefD := ⟨("nodes_from", none), "nodes_from", "nodes_from", defArgs s_nodes_from, defBody s_nodes_from, defScope s_nodes_from, [], []⟩
abbrev d_all_nodes : He.DefD := ⟨("all_nodes", none), "all_nodes", "all_nodes", defArgs s_all_nodes, defBody s_all_nodes, defScope s_all_nodes, [], []⟩
abbrev d_parting : He.DefD := ⟨("parting", none), "parting", "parting", defArgs s_parting, defBody s_parting, defScope s_parting, [], [("rising", .bl false)]⟩
abbrev d_alike : He.DefD := ⟨("alike", none), "alike", "alike", defArgs s_alike, defBody s_alike, defScope s_alike, [], [("rising", .bl false)]⟩
abbrev d_is_rising : He.DefD := ⟨("is_rising", none), "is_rising", "is_rising", defArgs s_is_rising, defBody s_is_rising, defScope s_is_rising, [], []⟩
abbrev d_are_numbers : He.DefD := ⟨("are_numbers", none), "are_numbers", "are_numbers", defArgs s_are_numbers, defBody s_are_numbers, defScope s_are_numbers, [], []⟩
abbrev d_parting_holds : He.DefD := ⟨("parting_holds", none), "parting_holds", "parting_holds", defArgs s_parting_holds, defBody s_parting_holds, defScope s_parting_holds, [], [("rising", .bl false)]⟩
abbrev d_keys_behind : He.DefD := ⟨("keys_behind", none), "keys_behind", "keys_behind", defArgs s_keys_behind, defBody s_keys_behind, defScope s_keys_behind, [], []⟩
abbrev d_below : He.DefD := ⟨("below", none), "below", "below", defArgs s_below, defBody s_below, defScope s_below, [], [("rising", .bl false)]⟩
abbrev d_pairs_behind : He.DefD := ⟨("pairs_behind", none), "pairs_behind", "pairs_behind", defArgs s_pairs_behind, defBody s_pairs_behind, defScope s_pairs_behind, [], []⟩
abbrev d_pairs_met : He.DefD := ⟨("pairs_met", none), "pairs_met", "pairs_met", defArgs s_pairs_met, defBody s_pairs_met, defScope s_pairs_met, [], []⟩
abbrev d_pairing_of : He.DefD := ⟨("pairing_of", none), "pairing_of", "pairing_of", defArgs s_pairing_of, defBody s_pairing_of, defScope s_pairing_of, [], []⟩
abbrev d_is_rest : He.DefD := ⟨("is_rest", none), "is_rest", "is_rest", defArgs s_is_rest, defBody s_is_rest, defScope s_is_rest, [], []⟩
abbrev d_is_pair : He.DefD := ⟨("is_pair", none), "is_pair", "is_pair", defArgs s_is_pair, defBody s_is_pair, defScope s_is_pair, [], []⟩
abbrev d_pairing_holds : He.DefD := ⟨("pairing_holds", none), "pairing_holds", "pairing_holds", defArgs s_pairing_holds, defBody s_pairing_holds, defScope s_pairing_holds, [], []⟩
abbrev d_law_spring : He.DefD := ⟨("_law_spring", none), "_law_spring", "_law_spring", defArgs s_law_spring, defBody s_law_spring, defScope s_law_spring, [], []⟩
abbrev d_law_dip : He.DefD := ⟨("_law_dip", none), "_law_dip", "_law_dip", defArgs s_law_dip, defBody s_law_dip, defScope s_law_dip, [], []⟩
abbrev d_law_pick : He.DefD := ⟨("_law_pick", none), "_law_pick", "_law_pick", defArgs s_law_pick, defBody s_law_pick, defScope s_law_pick, [], []⟩
abbrev d_law_range : He.DefD := ⟨("_law_range", none), "_law_range", "_law_range", defArgs s_law_range, defBody s_law_range, defScope s_law_range, [], []⟩
abbrev d_law_row : He.DefD := ⟨("_law_row", none), "_law_row", "_law_row", defArgs s_law_row, defBody s_law_row, defScope s_law_row, [], []⟩
abbrev d_law_window : He.DefD := ⟨("_law_window", none), "_law_window", "_law_window", defArgs s_law_window, defBody s_law_window, defScope s_law_window, [], []⟩
abbrev d_law_paired : He.DefD := ⟨("_law_paired", none), "_law_paired", "_law_paired", defArgs s_law_paired, defBody s_law_paired, defScope s_law_paired, [], []⟩
abbrev d_law_receiver : He.DefD := ⟨("_law_receiver", none), "_law_receiver", "_law_receiver", defArgs s_law_receiver, defBody s_law_receiver, defScope s_law_receiver, [], []⟩
abbrev d_law_lies : He.DefD := ⟨("_law_lies", none), "_law_lies", "_law_lies", defArgs s_law_lies, defBody s_law_lies, defScope s_law_lies, [], []⟩
abbrev d_law_counting : He.DefD := ⟨("_law_counting", none), "_law_counting", "_law_counting", defArgs s_law_counting, defBody s_law_counting, defScope s_law_counting, [], []⟩
abbrev d_law_step : He.DefD := ⟨("_law_step", none), "_law_step", "_law_step", defArgs s_law_step, defBody s_law_step, defScope s_law_step, [], []⟩
abbrev d_law_rest : He.DefD := ⟨("_law_rest", none), "_law_rest", "_law_rest", defArgs s_law_rest, defBody s_law_rest, defScope s_law_rest, [], []⟩
abbrev d_law_heard : He.DefD := ⟨("_law_heard", none), "_law_heard", "_law_heard", defArgs s_law_heard, defBody s_law_heard, defScope s_law_heard, [], []⟩
abbrev d_law_numbers : He.DefD := ⟨("_law_numbers", none), "_law_numbers", "_law_numbers", defArgs s_law_numbers, defBody s_law_numbers, defScope s_law_numbers, [], []⟩
abbrev d_law_swapped : He.DefD := ⟨("_law_swapped", none), "_law_swapped", "_law_swapped", defArgs s_law_swapped, defBody s_law_swapped, defScope s_law_swapped, [], []⟩
abbrev d_law_led : He.DefD := ⟨("_law_led", none), "_law_led", "_law_led", defArgs s_law_led, defBody s_law_led, defScope s_law_led, [], []⟩
abbrev d_law_shaped : He.DefD := ⟨("_law_shaped", none), "_law_shaped", "_law_shaped", defArgs s_law_shaped, defBody s_law_shaped, defScope s_law_shaped, [], []⟩
abbrev d_law_varied : He.DefD := ⟨("_law_varied", none), "_law_varied", "_law_varied", defArgs s_law_varied, defBody s_law_varied, defScope s_law_varied, [], []⟩
abbrev d_law_rising : He.DefD := ⟨("_law_rising", none), "_law_rising", "_law_rising", defArgs s_law_rising, defBody s_law_rising, defScope s_law_rising, [], []⟩
abbrev d_law_two : He.DefD := ⟨("_law_two", none), "_law_two", "_law_two", defArgs s_law_two, defBody s_law_two, defScope s_law_two, [], []⟩
abbrev d_law_wider : He.DefD := ⟨("_law_wider", none), "_law_wider", "_law_wider", defArgs s_law_wider, defBody s_law_wider, defScope s_law_wider, [], []⟩
abbrev d_law_first_unlike : He.DefD := ⟨("_law_first_unlike", none), "_law_first_unlike", "_law_first_unlike", defArgs s_law_first_unlike, defBody s_law_first_unlike, defScope s_law_first_unlike, [], []⟩
abbrev d_law_rows_right : He.DefD := ⟨("_law_rows_right", none), "_law_rows_right", "_law_rows_right", defArgs s_law_rows_right, defBody s_law_rows_right, defScope s_law_rows_right, [], []⟩
abbrev d_law_two_right : He.DefD := ⟨("_law_two_right", none), "_law_two_right", "_law_two_right", defArgs s_law_two_right, defBody s_law_two_right, defScope s_law_two_right, [], []⟩
abbrev d_law : He.DefD := ⟨("law", none), "law", "law", defArgs s_law, defBody s_law, defScope s_law, [], []⟩
def fnl : List He.DefD := [d_greater, d_lesser, d_place_of, d_merged, d_in_order, d_is_integer, d_rest_of, d_lies_in, d_counting_row, d_step_from, d_all_steps, d_rests_met, d_table_of, d_classes_of, d_runs_of, d_least_of, d_form_of, d_run_at, d_hear, d_beginning, d_walked, d_answers, d_next_steps, d_ahead_behind, d_nodeinit, d_road, d_numbers_by, d_nodes_from, d_all_nodes, d_parting, d_alike, d_is_rising, d_are_numbers, d_parting_holds, d_keys_behind, d_below, d_pairs_behind, d_pairs_met, d_pairing_of, d_is_rest, d_is_pair, d_pairing_holds, d_law_spring, d_law_dip, d_law_pick, d_law_range, d_law_row, d_law_window, d_law_paired, d_law_receiver, d_law_lies, d_law_counting, d_law_step, d_law_rest, d_law_heard, d_law_numbers, d_law_swapped, d_law_led, d_law_shaped, d_law_varied, d_law_rising, d_law_two, d_law_wider, d_law_first_unlike, d_law_rows_right, d_law_two_right, d_law]
def fal : List He.Fa := [.glo "greater", .glo "lesser", .glo "place_of", .glo "merged", .glo "in_order", .glo "is_integer", .glo "rest_of", .glo "lies_in", .glo "counting_row", .glo "step_from", .glo "all_steps", .glo "rests_met", .glo "table_of", .glo "classes_of", .glo "runs_of", .glo "least_of", .glo "form_of", .glo "run_at", .glo "hear", .glo "beginning", .glo "walked", .glo "answers", .glo "next_steps", .glo "ahead_behind", .glo "numbers_by", .glo "nodes_from", .glo "all_nodes", .glo "parting", .glo "alike", .glo "is_rising", .glo "are_numbers", .glo "parting_holds", .glo "keys_behind", .glo "below", .glo "pairs_behind", .glo "pairs_met", .glo "pairing_of", .glo "is_rest", .glo "is_pair", .glo "pairing_holds", .glo "_law_spring", .glo "_law_dip", .glo "_law_pick", .glo "_law_range", .glo "_law_row", .glo "_law_window", .glo "_law_paired", .glo "_law_receiver", .glo "_law_lies", .glo "_law_counting", .glo "_law_step", .glo "_law_rest", .glo "_law_heard", .glo "_law_numbers", .glo "_law_swapped", .glo "_law_led", .glo "_law_shaped", .glo "_law_varied", .glo "_law_rising", .glo "_law_two", .glo "_law_wider", .glo "_law_first_unlike", .glo "_law_rows_right", .glo "_law_two_right", .glo "law", .glo "Node", .free "len", .free "abs", .free "min", .free "int", .free "tuple", .free "all", .free "isinstance", .free "bool", .free "list", .free "range", .free "zip", .free "enumerate", .int "MAX_BOUND" 6, .int "FAR" 13, .cls "Node", .noat "Node" "key", .noat "Node" "before", .noat "Node" "step", .noat "Node" "is_taken", .meth "Node" "road", .mkr "Node"]
/-- what holds behind the top -/
structure Cm (P : Program) (w : World) (K : PySem.W.Frag) (mg : Str → Option Value) (base : Heap) (G : Gp) : Prop where
  says : He.SaysD fal fnl K
  glo : ∀ {x : Str}, (He.Fa.glo x).ok K = true → mg x = some (.ref (He.ga K x))
  fre : ∀ {x : Str}, (He.Fa.free x).ok K = true → mg x = none
  itg : ∀ {x : Str} {i : Int}, (He.Fa.int x i).ok K = true → ∃ t, mg x = some (.int i t)
  gp : G.prog = P ∧ G.w = w
  gK : G.K = K
  gN : G.cN = He.ga K "Node"
section
variable {P : Program} {w : World} {K : PySem.W.Frag} {mg : Str → Option Value} {base : Heap} {G : Gp}
theorem Cm.g_greater (C : Cm P w K mg base G) : mg "greater" = some (.ref (He.ga K "greater")) := C.glo (C.says.fact 0 (f := .glo "greater") rfl)
theorem Cm.g_lesser (C : Cm P w K mg base G) : mg "lesser" = some (.ref (He.ga K "lesser")) := C.glo (C.says.fact 1 (f := .glo "lesser") rfl)
theorem Cm.g_place_of (C : Cm P w K mg base G) : mg "place_of" = some (.ref (He.ga K "place_of")) := C.glo (C.says.fact 2 (f := .glo "place_of") rfl)
theorem Cm.g_merged (C : Cm P w K mg base G) : mg "merged" = some (.ref (He.ga K "merged")) := C.glo (C.says.fact 3 (f := .glo "merged") rfl)
theorem Cm.g_in_order (C : Cm P w K mg base G) : mg "in_order" = some (.ref (He.ga K "in_order")) := C.glo (C.says.fact 4 (f := .glo "in_order") rfl)
theorem Cm.g_is_integer (C : Cm P w K mg base G) : mg "is_integer" = some (.ref (He.ga K "is_integer")) := C.glo (C.says.fact 5 (f := .glo "is_integer") rfl)
theorem Cm.g_rest_of (C : Cm P w K mg base G) : mg "rest_of" = some (.ref (He.ga K "rest_of")) := C.glo (C.says.fact 6 (f := .glo "rest_of") rfl)
theorem Cm.g_lies_in (C : Cm P w K mg base G) : mg "lies_in" = some (.ref (He.ga K "lies_in")) := C.glo (C.says.fact 7 (f := .glo "lies_in") rfl)
theorem Cm.g_counting_row (C : Cm P w K mg base G) : mg "counting_row" = some (.ref (He.ga K "counting_row")) := C.glo (C.says.fact 8 (f := .glo "counting_row") rfl)
theorem Cm.g_step_from (C : Cm P w K mg base G) : mg "step_from" = some (.ref (He.ga K "step_from")) := C.glo (C.says.fact 9 (f := .glo "step_from") rfl)
theorem Cm.g_all_steps (C : Cm P w K mg base G) : mg "all_steps" = some (.ref (He.ga K "all_steps")) := C.glo (C.says.fact 10 (f := .glo "all_steps") rfl)
theorem Cm.g_rests_met (C : Cm P w K mg base G) : mg "rests_met" = some (.ref (He.ga K "rests_met")) := C.glo (C.says.fact 11 (f := .glo "rests_met") rfl)
theorem Cm.g_table_of (C : Cm P w K mg base G) : mg "table_of" = some (.ref (He.ga K "table_of")) := C.glo (C.says.fact 12 (f := .glo "table_of") rfl)
theorem Cm.g_classes_of (C : Cm P w K mg base G) : mg "classes_of" = some (.ref (He.ga K "classes_of")) := C.glo (C.says.fact 13 (f := .glo "classes_of") rfl)
theorem Cm.g_runs_of (C : Cm P w K mg base G) : mg "runs_of" = some (.ref (He.ga K "runs_of")) := C.glo (C.says.fact 14 (f := .glo "runs_of") rfl)
theorem Cm.g_least_of (C : Cm P w K mg base G) : mg "least_of" = some (.ref (He.ga K "least_of")) := C.glo (C.says.fact 15 (f := .glo "least_of") rfl)
theorem Cm.g_form_of (C : Cm P w K mg base G) : mg "form_of" = some (.ref (He.ga K "form_of")) := C.glo (C.says.fact 16 (f := .glo "form_of") rfl)
theorem Cm.g_run_at (C : Cm P w K mg base G) : mg "run_at" = some (.ref (He.ga K "run_at")) := C.glo (C.says.fact 17 (f := .glo "run_at") rfl)
theorem Cm.g_hear (C : Cm P w K mg base G) : mg "hear" = some (.ref (He.ga K "hear")) := C.glo (C.says.fact 18 (f := .glo "hear") rfl)
theorem Cm.g_beginning (C : Cm P w K mg base G) : mg "beginning" = some (.ref (He.ga K "beginning")) := C.glo (C.says.fact 19 (f := .glo "beginning") rfl)
theorem Cm.g_walked (C : Cm P w K mg base G) : mg "walked" = some (.ref (He.ga K "walked")) := C.glo (C.says.fact 20 (f := .glo "walked") rfl)
theorem Cm.g_answers (C : Cm P w K mg base G) : mg "answers" = some (.ref (He.ga K "answers")) := C.glo (C.says.fact 21 (f := .glo "answers") rfl)
theorem Cm.g_next_steps (C : Cm P w K mg base G) : mg "next_steps" = some (.ref (He.ga K "next_steps")) := C.glo (C.says.fact 22 (f := .glo "next_steps") rfl)
theorem Cm.g_ahead_behind (C : Cm P w K mg base G) : mg "ahead_behind" = some (.ref (He.ga K "ahead_behind")) := C.glo (C.says.fact 23 (f := .glo "ahead_behind") rfl)
theorem Cm.g_numbers_by (C : Cm P w K mg base G) : mg "numbers_by" = some (.ref (He.ga K "numbers_by")) := C.glo (C.says.fact 24 (f := .glo "numbers_by") rfl)
theorem Cm.g_nodes_from (C : Cm P w K mg base G) : mg "nodes_from" = some (.ref (He.ga K "nodes_from")) := C.glo (C.says.fact 25 (f := .glo "nodes_from") rfl)
theorem Cm.g_all_nodes (C : Cm P w K mg base G) : mg "all_nodes" = some (.ref (He.ga K "all_nodes")) := C.glo (C.says.fact 26 (f := .glo "all_nodes") rfl)
theorem Cm.g_parting (C : Cm P w K mg base G) : mg "parting" = some (.ref (He.ga K "parting")) := C.glo (C.says.fact 27 (f := .glo "parting") rfl)
theorem Cm.g_alike (C : Cm P w K mg base G) : mg "alike" = some (.ref (He.ga K "alike")) := C.glo (C.says.fact 28 (f := .glo "alike") rfl)
theorem Cm.g_is_rising (C : Cm P w K mg base G) : mg "is_rising" = some (.ref (He.ga K "is_rising")) := C.glo (C.says.fact 29 (f := .glo "is_rising") rfl)
theorem Cm.g_are_numbers (C : Cm P w K mg base G) : mg "are_numbers" = some (.ref (He.ga K "are_numbers")) := C.glo (C.says.fact 30 (f := .glo "are_numbers") rfl)
theorem Cm.g_parting_holds (C : Cm P w K mg base G) : mg "parting_holds" = some (.ref (He.ga K "parting_holds")) := C.glo (C.says.fact 31 (f := .glo "parting_holds") rfl)
theorem Cm.g_keys_behind (C : Cm P w K mg base G) : mg "keys_behind" = some (.ref (He.ga K "keys_behind")) := C.glo (C.says.fact 32 (f := .glo "keys_behind") rfl)
theorem Cm.g_below (C : Cm P w K mg base G) : mg "below" = some (.ref (He.ga K "below")) := C.glo (C.says.fact 33 (f := .glo "below") rfl)
theorem Cm.g_pairs_behind (C : Cm P w K mg base G) : mg "pairs_behind" = some (.ref (He.ga K "pairs_behind")) := C.glo (C.says.fact 34 (f := .glo "pairs_behind") rfl)
theorem Cm.g_pairs_met (C : Cm P w K mg base G) : mg "pairs_met" = some (.ref (He.ga K "pairs_met")) := C.glo (C.says.fact 35 (f := .glo "pairs_met") rfl)
theorem Cm.g_pairing_of (C : Cm P w K mg base G) : mg "pairing_of" = some (.ref (He.ga K "pairing_of")) := C.glo (C.says.fact 36 (f := .glo "pairing_of") rfl)
theorem Cm.g_is_rest (C : Cm P w K mg base G) : mg "is_rest" = some (.ref (He.ga K "is_rest")) := C.glo (C.says.fact 37 (f := .glo "is_rest") rfl)
theorem Cm.g_is_pair (C : Cm P w K mg base G) : mg "is_pair" = some (.ref (He.ga K "is_pair")) := C.glo (C.says.fact 38 (f := .glo "is_pair") rfl)
theorem Cm.g_pairing_holds (C : Cm P w K mg base G) : mg "pairing_holds" = some (.ref (He.ga K "pairing_holds")) := C.glo (C.says.fact 39 (f := .glo "pairing_holds") rfl)
theorem Cm.g_law_spring (C : Cm P w K mg base G) : mg "_law_spring" = some (.ref (He.ga K "_law_spring")) := C.glo (C.says.fact 40 (f := .glo "_law_spring") rfl)
theorem Cm.g_law_dip (C : Cm P w K mg base G) : mg "_law_dip" = some (.ref (He.ga K "_law_dip")) := C.glo (C.says.fact 41 (f := .glo "_law_dip") rfl)
theorem Cm.g_law_pick (C : Cm P w K mg base G) : mg "_law_pick" = some (.ref (He.ga K "_law_pick")) := C.glo (C.says.fact 42 (f := .glo "_law_pick") rfl)
theorem Cm.g_law_range (C : Cm P w K mg base G) : mg "_law_range" = some (.ref (He.ga K "_law_range")) := C.glo (C.says.fact 43 (f := .glo "_law_range") rfl)
theorem Cm.g_law_row (C : Cm P w K mg base G) : mg "_law_row" = some (.ref (He.ga K "_law_row")) := C.glo (C.says.fact 44 (f := .glo "_law_row") rfl)
theorem Cm.g_law_window (C : Cm P w K mg base G) : mg "_law_window" = some (.ref (He.ga K "_law_window")) := C.glo (C.says.fact 45 (f := .glo "_law_window") rfl)
theorem Cm.g_law_paired (C : Cm P w K mg base G) : mg "_law_paired" = some (.ref (He.ga K "_law_paired")) := C.glo (C.says.fact 46 (f := .glo "_law_paired") rfl)
theorem Cm.g_law_receiver (C : Cm P w K mg base G) : mg "_law_receiver" = some (.ref (He.ga K "_law_receiver")) := C.glo (C.says.fact 47 (f := .glo "_law_receiver") rfl)
theorem Cm.g_law_lies (C : Cm P w K mg base G) : mg "_law_lies" = some (.ref (He.ga K "_law_lies")) := C.glo (C.says.fact 48 (f := .glo "_law_lies") rfl)
theorem Cm.g_law_counting (C : Cm P w K mg base G) : mg "_law_counting" = some (.ref (He.ga K "_law_counting")) := C.glo (C.says.fact 49 (f := .glo "_law_counting") rfl)
theorem Cm.g_law_step (C : Cm P w K mg base G) : mg "_law_step" = some (.ref (He.ga K "_law_step")) := C.glo (C.says.fact 50 (f := .glo "_law_step") rfl)
theorem Cm.g_law_rest (C : Cm P w K mg base G) : mg "_law_rest" = some (.ref (He.ga K "_law_rest")) := C.glo (C.says.fact 51 (f := .glo "_law_rest") rfl)
theorem Cm.g_law_heard (C : Cm P w K mg base G) : mg "_law_heard" = some (.ref (He.ga K "_law_heard")) := C.glo (C.says.fact 52 (f := .glo "_law_heard") rfl)
theorem Cm.g_law_numbers (C : Cm P w K mg base G) : mg "_law_numbers" = some (.ref (He.ga K "_law_numbers")) := C.glo (C.says.fact 53 (f := .glo "_law_numbers") rfl)
theorem Cm.g_law_swapped (C : Cm P w K mg base G) : mg "_law_swapped" = some (.ref (He.ga K "_law_swapped")) := C.glo (C.says.fact 54 (f := .glo "_law_swapped") rfl)
theorem Cm.g_law_led (C : Cm P w K mg base G) : mg "_law_led" = some (.ref (He.ga K "_law_led")) := C.glo (C.says.fact 55 (f := .glo "_law_led") rfl)
theorem Cm.g_law_shaped (C : Cm P w K mg base G) : mg "_law_shaped" = some (.ref (He.ga K "_law_shaped")) := C.glo (C.says.fact 56 (f := .glo "_law_shaped") rfl)
theorem Cm.g_law_varied (C : Cm P w K mg base G) : mg "_law_varied" = some (.ref (He.ga K "_law_varied")) := C.glo (C.says.fact 57 (f := .glo "_law_varied") rfl)
theorem Cm.g_law_rising (C : Cm P w K mg base G) : mg "_law_rising" = some (.ref (He.ga K "_law_rising")) := C.glo (C.says.fact 58 (f := .glo "_law_rising") rfl)
theorem Cm.g_law_two (C : Cm P w K mg base G) : mg "_law_two" = some (.ref (He.ga K "_law_two")) := C.glo (C.says.fact 59 (f := .glo "_law_two") rfl)
theorem Cm.g_law_wider (C : Cm P w K mg base G) : mg "_law_wider" = some (.ref (He.ga K "_law_wider")) := C.glo (C.says.fact 60 (f := .glo "_law_wider") rfl)
theorem Cm.g_law_first_unlike (C : Cm P w K mg base G) : mg "_law_first_unlike" = some (.ref (He.ga K "_law_first_unlike")) := C.glo (C.says.fact 61 (f := .glo "_law_first_unlike") rfl)
theorem Cm.g_law_rows_right (C : Cm P w K mg base G) : mg "_law_rows_right" = some (.ref (He.ga K "_law_rows_right")) := C.glo (C.says.fact 62 (f := .glo "_law_rows_right") rfl)
theorem Cm.g_law_two_right (C : Cm P w K mg base G) : mg "_law_two_right" = some (.ref (He.ga K "_law_two_right")) := C.glo (C.says.fact 63 (f := .glo "_law_two_right") rfl)
theorem Cm.g_law (C : Cm P w K mg base G) : mg "law" = some (.ref (He.ga K "law")) := C.glo (C.says.fact 64 (f := .glo "law") rfl)
theorem Cm.g_Node (C : Cm P w K mg base G) : mg "Node" = some (.ref (He.ga K "Node")) := C.glo (C.says.fact 65 (f := .glo "Node") rfl)
theorem Cm.m_len (C : Cm P w K mg base G) : mg "len" = none := C.fre (C.says.fact 66 (f := .free "len") rfl)
theorem Cm.m_abs (C : Cm P w K mg base G) : mg "abs" = none := C.fre (C.says.fact 67 (f := .free "abs") rfl)
theorem Cm.m_min (C : Cm P w K mg base G) : mg "min" = none := C.fre (C.says.fact 68 (f := .free "min") rfl)
theorem Cm.m_int (C : Cm P w K mg base G) : mg "int" = none := C.fre (C.says.fact 69 (f := .free "int") rfl)
theorem Cm.m_tuple (C : Cm P w K mg base G) : mg "tuple" = none := C.fre (C.says.fact 70 (f := .free "tuple") rfl)
theorem Cm.m_all (C : Cm P w K mg base G) : mg "all" = none := C.fre (C.says.fact 71 (f := .free "all") rfl)
theorem Cm.m_isinstance (C : Cm P w K mg base G) : mg "isinstance" = none := C.fre (C.says.fact 72 (f := .free "isinstance") rfl)
theorem Cm.m_bool (C : Cm P w K mg base G) : mg "bool" = none := C.fre (C.says.fact 73 (f := .free "bool") rfl)
theorem Cm.m_list (C : Cm P w K mg base G) : mg "list" = none := C.fre (C.says.fact 74 (f := .free "list") rfl)
theorem Cm.m_range (C : Cm P w K mg base G) : mg "range" = none := C.fre (C.says.fact 75 (f := .free "range") rfl)
theorem Cm.m_zip (C : Cm P w K mg base G) : mg "zip" = none := C.fre (C.says.fact 76 (f := .free "zip") rfl)
theorem Cm.m_enumerate (C : Cm P w K mg base G) : mg "enumerate" = none := C.fre (C.says.fact 77 (f := .free "enumerate") rfl)
theorem Cm.i_MAX_BOUND (C : Cm P w K mg base G) : ∃ t, mg "MAX_BOUND" = some (.int 6 t) := C.itg (C.says.fact 78 (f := .int "MAX_BOUND" 6) rfl)
theorem Cm.i_FAR (C : Cm P w K mg base G) : ∃ t, mg "FAR" = some (.int 13 t) := C.itg (C.says.fact 79 (f := .int "FAR" 13) rfl)
theorem Cm.cl (C : Cm P w K mg base G) : Cls K G.cN := by rw [C.gN]; exact He.cls_ok (C.says.fact 80 (f := .cls "Node") rfl)
theorem Cm.na0 (C : Cm P w K mg base G) : NoAttr K G.cN (nodeN 0) := by rw [C.gN]; exact He.noat_ok (C.says.fact 81 (f := .noat "Node" "key") rfl)
theorem Cm.na1 (C : Cm P w K mg base G) : NoAttr K G.cN (nodeN 1) := by rw [C.gN]; exact He.noat_ok (C.says.fact 82 (f := .noat "Node" "before") rfl)
theorem Cm.na2 (C : Cm P w K mg base G) : NoAttr K G.cN (nodeN 2) := by rw [C.gN]; exact He.noat_ok (C.says.fact 83 (f := .noat "Node" "step") rfl)
theorem Cm.na3 (C : Cm P w K mg base G) : NoAttr K G.cN (nodeN 3) := by rw [C.gN]; exact He.noat_ok (C.says.fact 84 (f := .noat "Node" "is_taken") rfl)
theorem Cm.mt (C : Cm P w K mg base G) : Meth K G.cN "road" (He.ma K (He.ga K "Node") "road") := by rw [C.gN]; exact He.meth_ok (C.says.fact 85 (f := .meth "Node" "road") rfl)
theorem Cm.mkn (C : Cm P w K mg base G) : Mk K G.cN (He.ma K (He.ga K "Node") "__init__") := by rw [C.gN]; exact He.mkr_ok (C.says.fact 86 (f := .mkr "Node") rfl)
theorem Cm.mNode (C : Cm P w K mg base G) : mg "Node" = some (.ref G.cN) := by rw [C.gN]; exact C.g_Node
theorem bl_len : bootBuiltins "len" = some (.builtin "len") := by decide +kernel
theorem bl_abs : bootBuiltins "abs" = some (.builtin "abs") := by decide +kernel
theorem bl_min : bootBuiltins "min" = some (.builtin "min") := by decide +kernel
theorem bl_int : bootBuiltins "int" = some (.type "int") := by decide +kernel
theorem bl_tuple : bootBuiltins "tuple" = some (.type "tuple") := by decide +kernel
theorem bl_all : bootBuiltins "all" = some (.builtin "all") := by decide +kernel
theorem bl_isinstance : bootBuiltins "isinstance" = some (.builtin "isinstance") := by decide +kernel
theorem bl_bool : bootBuiltins "bool" = some (.type "bool") := by decide +kernel
theorem bl_list : bootBuiltins "list" = some (.type "list") := by decide +kernel
theorem bl_range : bootBuiltins "range" = some (.type "range") := by decide +kernel
theorem bl_zip : bootBuiltins "zip" = some (.type "zip") := by decide +kernel
theorem bl_enumerate : bootBuiltins "enumerate" = some (.type "enumerate") := by decide +kernel
def N_greater : List Str := ["one", "other"]
theorem sc_greater : FnScope N_greater ["one", "other"] (defScope s_greater) := ⟨rfl, rfl, rfl, by decide +kernel, rfl, by decide +kernel, by decide +kernel⟩
def N_lesser : List Str := ["one", "other"]
theorem sc_lesser : FnScope N_lesser ["one", "other"] (defScope s_lesser) := ⟨rfl, rfl, rfl, by decide +kernel, rfl, by decide +kernel, by decide +kernel⟩
def N_place_of : List Str := ["rows", "thing", "index", "row"]
theorem sc_place_of : FnScope N_place_of ["rows", "thing"] (defScope s_place_of) := ⟨rfl, rfl, rfl, by decide +kernel, rfl, by decide +kernel, by decide +kernel⟩
def N_merged : List Str := ["one", "other", "found", "left", "right"]
theorem sc_merged : FnScope N_merged ["one", "other"] (defScope s_merged) := ⟨rfl, rfl, rfl, by decide +kernel, rfl, by decide +kernel, by decide +kernel⟩
def N_in_order : List Str := ["rows", "parts", "half", "rest", "row", "one", "other"]
theorem sc_in_order : FnScope N_in_order ["rows"] (defScope s_in_order) := ⟨rfl, rfl, rfl, by decide +kernel, rfl, by decide +kernel, by decide +kernel⟩
def N_is_integer : List Str := ["value"]
theorem sc_is_integer : FnScope N_is_integer ["value"] (defScope s_is_integer) := ⟨rfl, rfl, rfl, by decide +kernel, rfl, by decide +kernel, by decide +kernel⟩
def N_rest_of : List Str := ["stand", "state", "last", "kept"]
theorem sc_rest_of : FnScope N_rest_of ["stand"] (defScope s_rest_of) := ⟨rfl, rfl, rfl, by decide +kernel, rfl, by decide +kernel, by decide +kernel⟩
def N_lies_in : List Str := ["number", "own", "low", "high"]
theorem sc_lies_in : FnScope N_lies_in ["number", "own"] (defScope s_lies_in) := ⟨rfl, rfl, rfl, by decide +kernel, rfl, by decide +kernel, by decide +kernel⟩
def N_counting_row : List Str := ["receiver", "rest", "step", "index", "row", "ahead", "after", "deed", "behind"]
theorem sc_counting_row : FnScope N_counting_row ["receiver", "rest", "step"] (defScope s_counting_row) := ⟨rfl, rfl, rfl, by decide +kernel, rfl, by decide +kernel, by decide +kernel⟩
def N_step_from : List Str := ["receiver", "rest", "step", "index", "deed", "behind"]
theorem sc_step_from : FnScope N_step_from ["receiver", "rest", "step"] (defScope s_step_from) := ⟨rfl, rfl, rfl, by decide +kernel, rfl, by decide +kernel, by decide +kernel⟩
def N_all_steps : List Str := []
theorem sc_all_steps : FnScope N_all_steps [] (defScope s_all_steps) := ⟨rfl, rfl, rfl, by decide +kernel, rfl, by decide +kernel, by decide +kernel⟩
def N_rests_met : List Str := ["receiver", "found", "at", "step", "behind"]
theorem sc_rests_met : FnScope N_rests_met ["receiver"] (defScope s_rests_met) := ⟨rfl, rfl, rfl, by decide +kernel, rfl, by decide +kernel, by decide +kernel⟩
def N_table_of : List Str := ["receiver", "rests", "found", "rest", "row", "step", "taken", "behind"]
theorem sc_table_of : FnScope N_table_of ["receiver"] (defScope s_table_of) := ⟨rfl, rfl, rfl, by decide +kernel, rfl, by decide +kernel, by decide +kernel⟩
def N_classes_of : List Str := ["table", "classes", "many", "known", "signs", "sign", "row", "taken", "behind"]
theorem sc_classes_of : FnScope N_classes_of ["table"] (defScope s_classes_of) := ⟨rfl, rfl, rfl, by decide +kernel, rfl, by decide +kernel, by decide +kernel⟩
def N_runs_of : List Str := ["row", "found", "step", "taken", "behind"]
theorem sc_runs_of : FnScope N_runs_of ["row"] (defScope s_runs_of) := ⟨rfl, rfl, rfl, by decide +kernel, rfl, by decide +kernel, by decide +kernel⟩
def N_least_of : List Str := ["table", "classes", "order", "rows", "taken", "row", "name", "behind"]
theorem sc_least_of : FnScope N_least_of ["table"] (defScope s_least_of) := ⟨rfl, rfl, rfl, by decide +kernel, rfl, by decide +kernel, by decide +kernel⟩
def N_form_of : List Str := ["receiver"]
theorem sc_form_of : FnScope N_form_of ["receiver"] (defScope s_form_of) := ⟨rfl, rfl, rfl, by decide +kernel, rfl, by decide +kernel, by decide +kernel⟩
def N_run_at : List Str := ["form", "place", "step", "high", "taken", "behind"]
theorem sc_run_at : FnScope N_run_at ["form", "place", "step"] (defScope s_run_at) := ⟨rfl, rfl, rfl, by decide +kernel, rfl, by decide +kernel, by decide +kernel⟩
def N_hear : List Str := ["receiver", "stand", "number", "last", "taken", "rest"]
theorem sc_hear : FnScope N_hear ["receiver", "stand", "number"] (defScope s_hear) := ⟨rfl, rfl, rfl, by decide +kernel, rfl, by decide +kernel, by decide +kernel⟩
def N_beginning : List Str := ["last"]
theorem sc_beginning : FnScope N_beginning ["last"] (defScope s_beginning) := ⟨rfl, rfl, rfl, by decide +kernel, rfl, by decide +kernel, by decide +kernel⟩
def N_walked : List Str := ["receiver", "numbers", "last", "stand", "found", "number", "taken"]
theorem sc_walked : FnScope N_walked ["receiver", "numbers", "last"] (defScope s_walked) := ⟨rfl, rfl, rfl, by decide +kernel, rfl, by decide +kernel, by decide +kernel⟩
def N_answers : List Str := ["receiver", "numbers", "last"]
theorem sc_answers : FnScope N_answers ["receiver", "numbers", "last"] (defScope s_answers) := ⟨rfl, rfl, rfl, by decide +kernel, rfl, by decide +kernel, by decide +kernel⟩
def N_next_steps : List Str := ["ahead", "rising"]
theorem sc_next_steps : FnScope N_next_steps ["ahead", "rising"] (defScope s_next_steps) := ⟨rfl, rfl, rfl, by decide +kernel, rfl, by decide +kernel, by decide +kernel⟩
def N_ahead_behind : List Str := ["ahead", "step", "taken"]
theorem sc_ahead_behind : FnScope N_ahead_behind ["ahead", "step", "taken"] (defScope s_ahead_behind) := ⟨rfl, rfl, rfl, by decide +kernel, rfl, by decide +kernel, by decide +kernel⟩
def N_nodeinit : List Str := ["self", "key", "before", "step", "taken"]
theorem sc_nodeinit : FnScope N_nodeinit ["self", "key", "before", "step", "taken"] (defScope s_nodeinit) := ⟨rfl, rfl, rfl, by decide +kernel, rfl, by decide +kernel, by decide +kernel⟩
def N_road : List Str := ["self", "found", "node"]
theorem sc_road : FnScope N_road ["self"] (defScope s_road) := ⟨rfl, rfl, rfl, by decide +kernel, rfl, by decide +kernel, by decide +kernel⟩
def N_numbers_by : List Str := ["road", "last", "heard", "found", "step", "taken", "number"]
theorem sc_numbers_by : FnScope N_numbers_by ["road"] (defScope s_numbers_by) := ⟨rfl, rfl, rfl, by decide +kernel, rfl, by decide +kernel, by decide +kernel⟩
def N_nodes_from : List Str := ["node", "forms", "rising", "here", "there", "ahead", "found", "step", "taken", "left", "is_other", "right", "behind", "further"]
theorem sc_nodes_from : FnScope N_nodes_from ["node", "forms", "rising"] (defScope s_nodes_from) := ⟨rfl, rfl, rfl, by decide +kernel, rfl, by decide +kernel, by decide +kernel⟩
def N_all_nodes : List Str := ["forms", "begin", "rising", "level", "found", "node", "known", "behind", "more", "parted", "further"]
theorem sc_all_nodes : FnScope N_all_nodes ["forms", "begin", "rising"] (defScope s_all_nodes) := ⟨rfl, rfl, rfl, by decide +kernel, rfl, by decide +kernel, by decide +kernel⟩
def N_parting : List Str := ["one", "other", "rising", "found"]
theorem sc_parting : FnScope N_parting ["one", "other", "rising"] (defScope s_parting) := ⟨rfl, rfl, rfl, by decide +kernel, rfl, by decide +kernel, by decide +kernel⟩
def N_alike : List Str := ["one", "other", "rising"]
theorem sc_alike : FnScope N_alike ["one", "other", "rising"] (defScope s_alike) := ⟨rfl, rfl, rfl, by decide +kernel, rfl, by decide +kernel, by decide +kernel⟩
def N_is_rising : List Str := ["numbers", "one", "other"]
theorem sc_is_rising : FnScope N_is_rising ["numbers"] (defScope s_is_rising) := ⟨rfl, rfl, rfl, by decide +kernel, rfl, by decide +kernel, by decide +kernel⟩
def N_are_numbers : List Str := ["value", "number"]
theorem sc_are_numbers : FnScope N_are_numbers ["value"] (defScope s_are_numbers) := ⟨rfl, rfl, rfl, by decide +kernel, rfl, by decide +kernel, by decide +kernel⟩
def N_parting_holds : List Str := ["one", "other", "value", "rising", "first", "second"]
theorem sc_parting_holds : FnScope N_parting_holds ["one", "other", "value", "rising"] (defScope s_parting_holds) := ⟨rfl, rfl, rfl, by decide +kernel, rfl, by decide +kernel, by decide +kernel⟩
def N_keys_behind : List Str := ["forms", "key", "rising", "here", "there", "ahead", "found", "step", "taken", "left", "is_other", "right"]
theorem sc_keys_behind : FnScope N_keys_behind ["forms", "key", "rising"] (defScope s_keys_behind) := ⟨rfl, rfl, rfl, by decide +kernel, rfl, by decide +kernel, by decide +kernel⟩
def N_below : List Str := ["one", "other", "rising", "forms", "level", "found", "key", "known", "behind", "more", "further"]
theorem sc_below : FnScope N_below ["one", "other", "rising"] (defScope s_below) := ⟨rfl, rfl, rfl, by decide +kernel, rfl, by decide +kernel, by decide +kernel⟩
def N_pairs_behind : List Str := ["one", "other", "pair", "found", "step", "taken", "left", "is_other", "right"]
theorem sc_pairs_behind : FnScope N_pairs_behind ["one", "other", "pair"] (defScope s_pairs_behind) := ⟨rfl, rfl, rfl, by decide +kernel, rfl, by decide +kernel, by decide +kernel⟩
def N_pairs_met : List Str := ["one", "other", "begin", "level", "found", "pair", "known", "behind", "more", "further"]
theorem sc_pairs_met : FnScope N_pairs_met ["one", "other", "begin"] (defScope s_pairs_met) := ⟨rfl, rfl, rfl, by decide +kernel, rfl, by decide +kernel, by decide +kernel⟩
def N_pairing_of : List Str := ["one", "other", "found"]
theorem sc_pairing_of : FnScope N_pairing_of ["one", "other"] (defScope s_pairing_of) := ⟨rfl, rfl, rfl, by decide +kernel, rfl, by decide +kernel, by decide +kernel⟩
def N_is_rest : List Str := ["receiver", "value", "gap", "item"]
theorem sc_is_rest : FnScope N_is_rest ["receiver", "value"] (defScope s_is_rest) := ⟨rfl, rfl, rfl, by decide +kernel, rfl, by decide +kernel, by decide +kernel⟩
def N_is_pair : List Str := ["one", "other", "value"]
theorem sc_is_pair : FnScope N_is_pair ["one", "other", "value"] (defScope s_is_pair) := ⟨rfl, rfl, rfl, by decide +kernel, rfl, by decide +kernel, by decide +kernel⟩
def N_pairing_holds : List Str := ["one", "other", "value", "pair", "known", "behind", "first", "second", "further"]
theorem sc_pairing_holds : FnScope N_pairing_holds ["one", "other", "value"] (defScope s_pairing_holds) := ⟨rfl, rfl, rfl, by decide +kernel, rfl, by decide +kernel, by decide +kernel⟩
def N_law_spring : List Str := ["_law_script", "_law_great", "_law_mixed", "_law_cell", "_law_more"]
theorem sc_law_spring : FnScope N_law_spring ["_law_script"] (defScope s_law_spring) := ⟨rfl, rfl, rfl, by decide +kernel, rfl, by decide +kernel, by decide +kernel⟩
def N_law_dip : List Str := ["_law_spring_here", "_law_many", "_law_digit", "_law_more"]
theorem sc_law_dip : FnScope N_law_dip ["_law_spring_here", "_law_many"] (defScope s_law_dip) := ⟨rfl, rfl, rfl, by decide +kernel, rfl, by decide +kernel, by decide +kernel⟩
def N_law_pick : List Str := ["_law_spring_here", "_law_some"]
theorem sc_law_pick : FnScope N_law_pick ["_law_spring_here", "_law_some"] (defScope s_law_pick) := ⟨rfl, rfl, rfl, by decide +kernel, rfl, by decide +kernel, by decide +kernel⟩
def N_law_range : List Str := ["_law_spring_here", "_law_way", "_law_low"]
theorem sc_law_range : FnScope N_law_range ["_law_spring_here"] (defScope s_law_range) := ⟨rfl, rfl, rfl, by decide +kernel, rfl, by decide +kernel, by decide +kernel⟩
def N_law_row : List Str := ["_law_spring_here", "_law_many", "_law_ahead", "_law_after", "_law_deed"]
theorem sc_law_row : FnScope N_law_row ["_law_spring_here", "_law_many"] (defScope s_law_row) := ⟨rfl, rfl, rfl, by decide +kernel, rfl, by decide +kernel, by decide +kernel⟩
def N_law_window : List Str := ["_law_size"]
theorem sc_law_window : FnScope N_law_window ["_law_size"] (defScope s_law_window) := ⟨rfl, rfl, rfl, by decide +kernel, rfl, by decide +kernel, by decide +kernel⟩
def N_law_paired : List Str := ["_law_size", "_law_wide", "_law_times", "_law_zone", "_law_found", "_law_k", "_law_rows"]
theorem sc_law_paired : FnScope N_law_paired ["_law_size", "_law_wide", "_law_times"] (defScope s_law_paired) := ⟨rfl, rfl, rfl, by decide +kernel, rfl, by decide +kernel, by decide +kernel⟩
def N_law_receiver : List Str := ["_law_spring_here", "_law_states", "_law_rows", "_law_way", "_law_size", "_law_many", "_law_found", "_law_state", "_law_k"]
theorem sc_law_receiver : FnScope N_law_receiver ["_law_spring_here", "_law_states", "_law_rows"] (defScope s_law_receiver) := ⟨rfl, rfl, rfl, by decide +kernel, rfl, by decide +kernel, by decide +kernel⟩
def N_law_lies : List Str := ["_law_number", "_law_own"]
theorem sc_law_lies : FnScope N_law_lies ["_law_number", "_law_own"] (defScope s_law_lies) := ⟨rfl, rfl, rfl, by decide +kernel, rfl, by decide +kernel, by decide +kernel⟩
def N_law_counting : List Str := ["_law_receiver_here", "_law_rest_here", "_law_step_here", "_law_k", "_law_ahead", "_law_after"]
theorem sc_law_counting : FnScope N_law_counting ["_law_receiver_here", "_law_rest_here", "_law_step_here"] (defScope s_law_counting) := ⟨rfl, rfl, rfl, by decide +kernel, rfl, by decide +kernel, by decide +kernel⟩
def N_law_step : List Str := ["_law_receiver_here", "_law_rest_here", "_law_step_here", "_law_k", "_law_deed", "_law_behind"]
theorem sc_law_step : FnScope N_law_step ["_law_receiver_here", "_law_rest_here", "_law_step_here"] (defScope s_law_step) := ⟨rfl, rfl, rfl, by decide +kernel, rfl, by decide +kernel, by decide +kernel⟩
def N_law_rest : List Str := ["_law_stand"]
theorem sc_law_rest : FnScope N_law_rest ["_law_stand"] (defScope s_law_rest) := ⟨rfl, rfl, rfl, by decide +kernel, rfl, by decide +kernel, by decide +kernel⟩
def N_law_heard : List Str := ["_law_receiver_here", "_law_stand", "_law_number", "_law_taken", "_law_rest_here", "_law_origin"]
theorem sc_law_heard : FnScope N_law_heard ["_law_receiver_here", "_law_stand", "_law_number"] (defScope s_law_heard) := ⟨rfl, rfl, rfl, by decide +kernel, rfl, by decide +kernel, by decide +kernel⟩
def N_law_numbers : List Str := ["_law_spring_here", "_law_receiver_here", "_law_origin", "_law_many", "_law_stand", "_law_found", "_law_k", "_law_way", "_law_number"]
theorem sc_law_numbers : FnScope N_law_numbers ["_law_spring_here", "_law_receiver_here", "_law_origin", "_law_many"] (defScope s_law_numbers) := ⟨rfl, rfl, rfl, by decide +kernel, rfl, by decide +kernel, by decide +kernel⟩
def N_law_swapped : List Str := ["_law_receiver_here", "_law_one", "_law_other", "_law_order", "_law_found", "_law_k", "_law_row_here"]
theorem sc_law_swapped : FnScope N_law_swapped ["_law_receiver_here", "_law_one", "_law_other"] (defScope s_law_swapped) := ⟨rfl, rfl, rfl, by decide +kernel, rfl, by decide +kernel, by decide +kernel⟩
def N_law_led : List Str := ["_law_row_here", "_law_behind"]
theorem sc_law_led : FnScope N_law_led ["_law_row_here", "_law_behind"] (defScope s_law_led) := ⟨rfl, rfl, rfl, by decide +kernel, rfl, by decide +kernel, by decide +kernel⟩
def N_law_shaped : List Str := ["_law_spring_here", "_law_receiver_here", "_law_way", "_law_state", "_law_rows", "_law_more", "_law_one", "_law_found", "_law_moves", "_law_led_here", "_law_row_here", "_law_k"]
theorem sc_law_shaped : FnScope N_law_shaped ["_law_spring_here", "_law_receiver_here"] (defScope s_law_shaped) := ⟨rfl, rfl, rfl, by decide +kernel, rfl, by decide +kernel, by decide +kernel⟩
def N_law_varied : List Str := ["_law_spring_here", "_law_receiver_here", "_law_state", "_law_rows", "_law_way", "_law_spot"]
theorem sc_law_varied : FnScope N_law_varied ["_law_spring_here", "_law_receiver_here"] (defScope s_law_varied) := ⟨rfl, rfl, rfl, by decide +kernel, rfl, by decide +kernel, by decide +kernel⟩
def N_law_rising : List Str := ["_law_spring_here", "_law_many", "_law_number", "_law_found", "_law_k"]
theorem sc_law_rising : FnScope N_law_rising ["_law_spring_here", "_law_many"] (defScope s_law_rising) := ⟨rfl, rfl, rfl, by decide +kernel, rfl, by decide +kernel, by decide +kernel⟩
def N_law_two : List Str := ["_law_spring_here", "_law_states", "_law_rows", "_law_one", "_law_way", "_law_other"]
theorem sc_law_two : FnScope N_law_two ["_law_spring_here", "_law_states", "_law_rows"] (defScope s_law_two) := ⟨rfl, rfl, rfl, by decide +kernel, rfl, by decide +kernel, by decide +kernel⟩
def N_law_wider : List Str := ["_law_spring_here", "_law_receiver_here", "_law_state", "_law_rows", "_law_row_here"]
theorem sc_law_wider : FnScope N_law_wider ["_law_spring_here", "_law_receiver_here"] (defScope s_law_wider) := ⟨rfl, rfl, rfl, by decide +kernel, rfl, by decide +kernel, by decide +kernel⟩
def N_law_first_unlike : List Str := ["_law_one", "_law_other", "_law_numbers_here", "_law_left", "_law_right", "_law_found", "_law_k"]
theorem sc_law_first_unlike : FnScope N_law_first_unlike ["_law_one", "_law_other", "_law_numbers_here"] (defScope s_law_first_unlike) := ⟨rfl, rfl, rfl, by decide +kernel, rfl, by decide +kernel, by decide +kernel⟩
def N_law_rows_right : List Str := ["_law_spring_here", "_law_one", "_law_other", "_law_upward", "_law_row_here", "_law_under", "_law_turn", "_law_numbers_here", "_law_at"]
theorem sc_law_rows_right : FnScope N_law_rows_right ["_law_spring_here", "_law_one", "_law_other", "_law_upward"] (defScope s_law_rows_right) := ⟨rfl, rfl, rfl, by decide +kernel, rfl, by decide +kernel, by decide +kernel⟩
def N_law_two_right : List Str := ["_law_one", "_law_other", "_law_same", "_law_pairs"]
theorem sc_law_two_right : FnScope N_law_two_right ["_law_one", "_law_other"] (defScope s_law_two_right) := ⟨rfl, rfl, rfl, by decide +kernel, rfl, by decide +kernel, by decide +kernel⟩
def N_law : List Str := ["_law_script", "_law_spring_here", "_law_turn", "_law_one", "_law_other", "_law_third", "_law_pair", "_law_upward"]
theorem sc_law : FnScope N_law ["_law_script"] (defScope s_law) := ⟨rfl, rfl, rfl, by decide +kernel, rfl, by decide +kernel, by decide +kernel⟩
end
end DL
end
section
set_option Elab.async false
set_option linter.all false
set_option maxRecDepth 100000
set_option maxHeartbeats 4000000
set_option autoImplicit false
/-! Each def computes it. Printed by gen.py. -/
namespace DL
open PySem PySem.Spec
open PyProof.Rows hiding St
open L2

section
variable {P : Program} {w : World} {K : PySem.W.Frag} {mg : Str → Option Value} {base : Heap} {G : Gp}
theorem b_greater (C : Cm P w K mg base G) {f : Addr} : Body G P w K mg base N_greater "greater" s_greater f 0 [] [] S_greater := fun cdv A outer s H E hr =>
  have nd := sc_greater.nd
  (sone (sret (vif (tcmp (o_lt hr) (vv 0) (vv 1)) (vv 1) (vv 0))))
theorem ok_greater (C : Cm P w K mg base G) : OkP P w K mg base G "greater" ["one", "other"] 1 F_greater := by
  obtain ⟨fd, Fu⟩ := C.says.def_ 0 (d := d_greater) rfl
  exact ⟨_, fd, C.g_greater, Fu.kp, Fu.bindsN fun _ _ _ _ _ _ us hl => match us, hl with | [_, _], _ => rfl, fn_p (st := s_greater) (N := N_greater) Fu sc_greater (b_greater C)⟩
theorem b_lesser (C : Cm P w K mg base G) {f : Addr} : Body G P w K mg base N_lesser "lesser" s_lesser f 0 [] [] S_lesser := fun cdv A outer s H E hr =>
  have nd := sc_lesser.nd
  (sone (sret (vif (tcmp (o_lt hr) (vv 0) (vv 1)) (vv 0) (vv 1))))
theorem ok_lesser (C : Cm P w K mg base G) : OkP P w K mg base G "lesser" ["one", "other"] 1 F_lesser := by
  obtain ⟨fd, Fu⟩ := C.says.def_ 1 (d := d_lesser) rfl
  exact ⟨_, fd, C.g_lesser, Fu.kp, Fu.bindsN fun _ _ _ _ _ _ us hl => match us, hl with | [_, _], _ => rfl, fn_p (st := s_lesser) (N := N_lesser) Fu sc_lesser (b_lesser C)⟩
theorem b_place_of (C : Cm P w K mg base G) {f : Addr} : Body G P w K mg base N_place_of "place_of" s_place_of f 0 [] [] S_place_of := fun cdv A outer s H E hr =>
  have nd := sc_place_of.nd
  (scons (sfor PassesOwn.never rfl (iel (by rfl) C.m_enumerate (vv 0)) (tt rfl (tsc (tn 2 nd) (tsc (tn 3 nd) tsn))) (sone (sif (tcmp (o_eq hr) (vv 3) (vv 1)) (sone (sret (vv 2))) snil)))
    (sone (sret vn)))
theorem ok_place_of (C : Cm P w K mg base G) : OkP P w K mg base G "place_of" ["rows", "thing"] 1 F_place_of := by
  obtain ⟨fd, Fu⟩ := C.says.def_ 2 (d := d_place_of) rfl
  exact ⟨_, fd, C.g_place_of, Fu.kp, Fu.bindsN fun _ _ _ _ _ _ us hl => match us, hl with | [_, _], _ => rfl, fn_p (st := s_place_of) (N := N_place_of) Fu sc_place_of (b_place_of C)⟩
theorem b_merged (C : Cm P w K mg base G) {f : Addr} : Body G P w K mg base N_merged "merged" s_merged f 0 [] [] S_merged := fun cdv A outer s H E hr =>
  have nd := sc_merged.nd
  (scons (ssetF 2 nd (flst anil) (fun _ _ _ => dLst_lst))
    (scons (stg (vtup (acons vi (acons vi anil))) (tt rfl (tsc (tn 3 nd) (tsc (tn 4 nd) tsn))))
    (scons (swhile FU PassesOwn.never (PW.pt (wand (tcmp (o_lt hr) (vv 3) (vcb b_len (by rfl) C.m_len bl_len (acons (vv 0) anil))) (wand1 (tcmp (o_lt hr) (vv 4) (vcb b_len (by rfl) C.m_len bl_len (acons (vv 1) anil)))))) (sone (sif (tcmp (o_lt hr) (vix (vv 1) (vv 4)) (vix (vv 0) (vv 3))) (scons (sapp 2 (vix (vv 1) (vv 4)))
    (sone (saug 4 nd vi))) (scons (saug 4 nd (vct b_int (by rfl) C.m_int bl_int (acons (vcmp (o_eq hr) (vix (vv 0) (vv 3)) (vix (vv 1) (vv 4))) anil)))
    (scons (sapp 2 (vix (vv 0) (vv 3)))
    (sone (saug 3 nd vi)))))))
    (sone (spre (o1 := []) (sret (vop o_add (vop o_add (vv 2) (vsl (vv 0) (os (vv 3)) on)) (vsl (vv 1) (os (vv 4)) on))))))))
theorem ok_merged (C : Cm P w K mg base G) : OkP P w K mg base G "merged" ["one", "other"] 1 F_merged := by
  obtain ⟨fd, Fu⟩ := C.says.def_ 3 (d := d_merged) rfl
  exact ⟨_, fd, C.g_merged, Fu.kp, Fu.bindsN fun _ _ _ _ _ _ us hl => match us, hl with | [_, _], _ => rfl, fn_p (st := s_merged) (N := N_merged) Fu sc_merged (b_merged C)⟩
theorem b_in_order (C : Cm P w K mg base G) {f : Addr} : Body G P w K mg base N_in_order "in_order" s_in_order f 1 [] [] S_in_order := fun cdv A outer s H E hr =>
  have nd := sc_in_order.nd
  (scons (ssetLc 1 rfl nd (il (vv 0)) (blkOk_by (own := [("row", 4)]) (by kernel_rfl)) rfl (fun _ _ _ _ _ => (tn 4 nd)) (fun _ _ _ _ _ => pts0) (fun _ _ _ _ _ => (vlst (acons (vv 4) anil))) (sw_true rfl rfl rfl (by decide +kernel)))
    (scons (swhile FU PassesOwn.never (tcmp o_gt (vcb b_len (by rfl) C.m_len bl_len (acons (vv 1) anil)) vi) (scons (sset 2 nd (vop o_div (vcb b_len (by rfl) C.m_len bl_len (acons (vv 1) anil)) vi))
    (scons (sset 3 nd (vsl (vv 1) (os (vop o_mul vi (vv 2))) on))
    (sone (sset 1 nd (vop o_add (vlc rfl nd (iz (by rfl) C.m_zip (acons (vsl (vv 1) on (os (vv 2))) (acons (vsl (vv 1) (os (vv 2)) (os (vop o_mul vi (vv 2)))) anil))) (blkOk_by (own := [("one", 5), ("other", 6)]) (by kernel_rfl)) rfl (fun _ _ _ _ _ => (tt rfl (tsc (tn 5 nd) (tsc (tn 6 nd) tsn)))) (fun _ _ _ _ _ => pts0) (fun _ _ _ _ _ => (wcal (ok_merged C) hr (by decide) (by rfl) (acons (vv 5) (acons (vv 6) anil))))) (vv 3)))))))
    (sone (sret (vif (tnn hr (vv 1)) (vct b_tuple (by rfl) C.m_tuple bl_tuple (acons (vix (vv 1) vi) anil)) (vtup anil))))))
theorem ok_in_order (C : Cm P w K mg base G) : OkP P w K mg base G "in_order" ["rows"] 2 F_in_order := by
  obtain ⟨fd, Fu⟩ := C.says.def_ 4 (d := d_in_order) rfl
  exact ⟨_, fd, C.g_in_order, Fu.kp, Fu.bindsN fun _ _ _ _ _ _ us hl => match us, hl with | [_], _ => rfl, fn_p (st := s_in_order) (N := N_in_order) Fu sc_in_order (b_in_order C)⟩
theorem b_is_integer (C : Cm P w K mg base G) {f : Addr} : Body G P w K mg base N_is_integer "is_integer" s_is_integer f 0 [] [] S_is_integer := fun cdv A outer s H E hr =>
  have nd := sc_is_integer.nd
  (sone (sret (vand (visi (by rfl) C.m_isinstance bl_isinstance (by rfl) C.m_int bl_int (vv 0)) (vone (vnot (visi (by rfl) C.m_isinstance bl_isinstance (by rfl) C.m_bool bl_bool (vv 0)))))))
theorem ok_is_integer (C : Cm P w K mg base G) : OkP P w K mg base G "is_integer" ["value"] 1 F_is_integer := by
  obtain ⟨fd, Fu⟩ := C.says.def_ 5 (d := d_is_integer) rfl
  exact ⟨_, fd, C.g_is_integer, Fu.kp, Fu.bindsN fun _ _ _ _ _ _ us hl => match us, hl with | [_], _ => rfl, fn_p (st := s_is_integer) (N := N_is_integer) Fu sc_is_integer (b_is_integer C)⟩
theorem b_rest_of (C : Cm P w K mg base G) {f : Addr} : Body G P w K mg base N_rest_of "rest_of" s_rest_of f 0 [] [] S_rest_of := fun cdv A outer s H E hr =>
  have nd := sc_rest_of.nd
  (scons (stg (vv 0) (tt rfl (tsc (tn 1 nd) (tsc (tn 2 nd) (tsc (tn 3 nd) tsn)))))
    (sone (sret (vif (tcmp o_is (vv 3) vn) (vtup (acons (vv 1) anil)) (vtup (acons (vv 1) (acons (vop o_sub (vv 3) (vv 2)) anil)))))))
theorem ok_rest_of (C : Cm P w K mg base G) : OkP P w K mg base G "rest_of" ["stand"] 1 F_rest_of := by
  obtain ⟨fd, Fu⟩ := C.says.def_ 6 (d := d_rest_of) rfl
  exact ⟨_, fd, C.g_rest_of, Fu.kp, Fu.bindsN fun _ _ _ _ _ _ us hl => match us, hl with | [_], _ => rfl, fn_p (st := s_rest_of) (N := N_rest_of) Fu sc_rest_of (b_rest_of C)⟩
theorem b_lies_in (C : Cm P w K mg base G) {f : Addr} : Body G P w K mg base N_lies_in "lies_in" s_lies_in f 0 [] [] S_lies_in := fun cdv A outer s H E hr =>
  have nd := sc_lies_in.nd
  (scons (stg (vv 1) (tt rfl (tsc (tn 2 nd) (tsc (tn 3 nd) tsn))))
    (sone (sret (vand (vor (vcmp o_is (vv 2) vn) (vone (vcmp o_le (vv 2) (vv 0)))) (vone (vor (vcmp o_is (vv 3) vn) (vone (vcmp o_le (vv 0) (vv 3)))))))))
theorem ok_lies_in (C : Cm P w K mg base G) : OkP P w K mg base G "lies_in" ["number", "own"] 1 F_lies_in := by
  obtain ⟨fd, Fu⟩ := C.says.def_ 7 (d := d_lies_in) rfl
  exact ⟨_, fd, C.g_lies_in, Fu.kp, Fu.bindsN fun _ _ _ _ _ _ us hl => match us, hl with | [_, _], _ => rfl, fn_p (st := s_lies_in) (N := N_lies_in) Fu sc_lies_in (b_lies_in C)⟩
theorem b_counting_row (C : Cm P w K mg base G) {f : Addr} : Body G P w K mg base N_counting_row "counting_row" s_counting_row f 1 [] [] S_counting_row := fun cdv A outer s H E hr =>
  have nd := sc_counting_row.nd
  (scons (sfor PassesOwn.never rfl (iet (by rfl) C.m_enumerate (vix (vv 0) (vix (vv 1) vi))) (tt rfl (tsc (tn 3 nd) (tsc (tn 4 nd) tsn))) (scons (stg (vv 4) (tt rfl (tsc (tn 5 nd) (tsc (tn 6 nd) (tsc (tn 7 nd) (tsc (tn 8 nd) tsn))))))
    (sone (sif (tval (wcal (ok_lies_in C) hr (by decide) (by rfl) (acons (vv 2) (acons (vv 5) anil)))) (sone (sif (PW.pt (wor (tcmp o_is (vv 6) vn) (wor1 (PW.pt (wand (tcmp (o_eq hr) (vcb b_len (by rfl) C.m_len bl_len (acons (vv 1) anil)) vi) (wand1 (tval (wcal (ok_lies_in C) hr (by decide) (by rfl) (acons (vop o_sub (vv 2) (vix (vv 1) vi)) (acons (vv 6) anil)))))))))) (sone (sret (vv 3))) snil)) snil))))
    (sone (sret vn)))
theorem ok_counting_row (C : Cm P w K mg base G) : OkP P w K mg base G "counting_row" ["receiver", "rest", "step"] 2 F_counting_row := by
  obtain ⟨fd, Fu⟩ := C.says.def_ 8 (d := d_counting_row) rfl
  exact ⟨_, fd, C.g_counting_row, Fu.kp, Fu.bindsN fun _ _ _ _ _ _ us hl => match us, hl with | [_, _, _], _ => rfl, fn_p (st := s_counting_row) (N := N_counting_row) Fu sc_counting_row (b_counting_row C)⟩
theorem b_step_from (C : Cm P w K mg base G) {f : Addr} : Body G P w K mg base N_step_from "step_from" s_step_from f 2 [] [] S_step_from := fun cdv A outer s H E hr =>
  have nd := sc_step_from.nd
  (scons (sset 3 nd (wcal (ok_counting_row C) hr (by decide) (by rfl) (acons (vv 0) (acons (vv 1) (acons (vv 2) anil)))))
    (scons (sif (tcmp o_is (vv 3) vn) (sone (sret (vtup (acons vb (acons (vv 1) anil))))) snil)
    (scons (stg (vsl (vix (vix (vv 0) (vix (vv 1) vi)) (vv 3)) (os vi) on) (tt rfl (tsc (tn 4 nd) (tsc (tn 5 nd) tsn))))
    (scons (sif (tcmp (o_eq hr) (vv 4) vs) (sone (sret (vtup (acons vb (acons (vtup (acons (vv 5) anil)) anil))))) snil)
    (scons (sif (tcmp (o_eq hr) (vv 4) vs) (sone (sret (vtup (acons vb (acons (vtup (acons (vv 5) (acons (vv 2) anil))) anil))))) snil)
    (sone (sret (vtup (acons vb (acons (vif (tcmp (o_eq hr) (vv 4) vs) (vtup (acons (vv 5) anil)) (vop o_add (vtup (acons (vv 5) anil)) (vsl (vv 1) (os vi) on))) anil))))))))))
theorem ok_step_from (C : Cm P w K mg base G) : OkP P w K mg base G "step_from" ["receiver", "rest", "step"] 3 F_step_from := by
  obtain ⟨fd, Fu⟩ := C.says.def_ 9 (d := d_step_from) rfl
  exact ⟨_, fd, C.g_step_from, Fu.kp, Fu.bindsN fun _ _ _ _ _ _ us hl => match us, hl with | [_, _, _], _ => rfl, fn_p (st := s_step_from) (N := N_step_from) Fu sc_step_from (b_step_from C)⟩
theorem b_all_steps (C : Cm P w K mg base G) {f : Addr} : Body G P w K mg base N_all_steps "all_steps" s_all_steps f 0 [] [] S_all_steps := fun cdv A outer s H E hr =>
  have nd := sc_all_steps.nd
  (sone (sret (vlr rfl (by rfl) C.m_list (rr2 (by rfl) C.m_range (vop o_sub vi (vgx (by rfl) C.i_FAR)) (vop o_add (vgx (by rfl) C.i_FAR) vi)))))
theorem ok_all_steps (C : Cm P w K mg base G) : OkP P w K mg base G "all_steps" [] 1 F_all_steps := by
  obtain ⟨fd, Fu⟩ := C.says.def_ 10 (d := d_all_steps) rfl
  exact ⟨_, fd, C.g_all_steps, Fu.kp, Fu.bindsN fun _ _ _ _ _ _ us hl => match us, hl with | [], _ => rfl, fn_p (st := s_all_steps) (N := N_all_steps) Fu sc_all_steps (b_all_steps C)⟩
theorem b_rests_met (C : Cm P w K mg base G) {f : Addr} : Body G P w K mg base N_rests_met "rests_met" s_rests_met f 3 [] [] S_rests_met := fun cdv A outer s H E hr =>
  have nd := sc_rests_met.nd
  (scons (ssetF 1 nd (flst (acons (vtup (acons vi anil)) anil)) (fun _ _ _ => dLst_lst))
    (scons (sset 2 nd vi)
    (scons (swhile FU PassesOwn.never (tcmp (o_lt hr) (vv 2) (vleno 1 (by rfl) C.m_len bl_len)) (scons (sfor PassesOwn.never rfl (il (wcal0 (ok_all_steps C) hr (by decide) (by rfl))) (tn 3 nd) (scons (sset 4 nd (vix (wcal (ok_step_from C) hr (by decide) (by rfl) (acons (vv 0) (acons (vixo 1 (vv 2)) (acons (vv 3) anil)))) vi))
    (sone (sif (nino hr 1 (vv 4)) (sone (sapp 1 (vv 4))) snil))))
    (sone (saug 2 nd vi))))
    (sone (spre (o1 := []) (sret (vv 1)))))))
theorem ok_rests_met (C : Cm P w K mg base G) : OkP P w K mg base G "rests_met" ["receiver"] 4 F_rests_met := by
  obtain ⟨fd, Fu⟩ := C.says.def_ 11 (d := d_rests_met) rfl
  exact ⟨_, fd, C.g_rests_met, Fu.kp, Fu.bindsN fun _ _ _ _ _ _ us hl => match us, hl with | [_], _ => rfl, fn_p (st := s_rests_met) (N := N_rests_met) Fu sc_rests_met (b_rests_met C)⟩
theorem b_table_of (C : Cm P w K mg base G) {f : Addr} : Body G P w K mg base N_table_of "table_of" s_table_of f 4 [] [] S_table_of := fun cdv A outer s H E hr =>
  have nd := sc_table_of.nd
  (scons (sset 1 nd (wcal (ok_rests_met C) hr (by decide) (by rfl) (acons (vv 0) anil)))
    (scons (ssetF 2 nd (flst anil) (fun _ _ _ => dLst_lst))
    (scons (sfor PassesOwn.never rfl (il (vv 1)) (tn 3 nd) (scons (ssetLc 4 rfl nd (il (wcal0 (ok_all_steps C) hr (by decide) (by rfl))) (blkOk_by (own := [("step", 5)]) (by kernel_rfl)) rfl (fun _ _ _ _ _ => (tn 5 nd)) (fun _ _ _ _ _ => pts0) (fun _ _ _ _ _ => (wcal (ok_step_from C) hr (by decide) (by rfl) (acons (vv 0) (acons (vv 3) (acons (vv 5) anil))))) (sw_true rfl rfl rfl (by decide +kernel)))
    (sone (sapp 2 (vlc rfl nd (il (vv 4)) (blkOk_by (own := [("taken", 6), ("behind", 7)]) (by kernel_rfl)) rfl (fun _ _ _ _ _ => (tt rfl (tsc (tn 6 nd) (tsc (tn 7 nd) tsn)))) (fun _ _ _ _ _ => pts0) (fun _ _ _ _ _ => (vtup (acons (vv 6) (acons (wcal (ok_place_of C) hr (by decide) (by rfl) (acons (vv 1) (acons (vv 7) anil))) anil)))))))))
    (sone (spre (o1 := []) (sret (vv 2)))))))
theorem ok_table_of (C : Cm P w K mg base G) : OkP P w K mg base G "table_of" ["receiver"] 5 F_table_of := by
  obtain ⟨fd, Fu⟩ := C.says.def_ 12 (d := d_table_of) rfl
  exact ⟨_, fd, C.g_table_of, Fu.kp, Fu.bindsN fun _ _ _ _ _ _ us hl => match us, hl with | [_], _ => rfl, fn_p (st := s_table_of) (N := N_table_of) Fu sc_table_of (b_table_of C)⟩
theorem b_classes_of (C : Cm P w K mg base G) {f : Addr} : Body G P w K mg base N_classes_of "classes_of" s_classes_of f 1 [] [] S_classes_of := fun cdv A outer s H E hr =>
  have nd := sc_classes_of.nd
  (scons (sset 1 nd (vlc rfl nd (il (vv 0)) (blkOk_by (own := [("row", 6)]) (by kernel_rfl)) rfl (fun _ _ _ _ _ => (tn 6 nd)) (fun _ _ _ _ _ => pts0) (fun _ _ _ _ _ => vi)))
    (scons (sset 2 nd vi)
    (scons (ssetF 3 nd (flst (acons (vtup anil) anil)) (fun _ _ _ => dLst_lst))
    (scons (spre (o1 := []) (swhile FU PassesOwn.never (tcmp (o_lt hr) (vv 2) (vcb b_len (by rfl) C.m_len bl_len (acons (vv 3) anil))) (scons (sset 2 nd (vcb b_len (by rfl) C.m_len bl_len (acons (vv 3) anil)))
    (scons (ssetLc 4 rfl nd (il (vv 0)) (blkOk_by (own := [("row", 6)]) (by kernel_rfl)) rfl (fun _ _ _ _ _ => (tn 6 nd)) (fun _ _ _ _ _ => pts0) (fun _ _ _ _ _ => (vct b_tuple (by rfl) C.m_tuple bl_tuple (acons (vlc rfl nd (il (vv 6)) (blkOk_by (own := [("taken", 7), ("behind", 8)]) (by kernel_rfl)) rfl (fun _ _ _ _ _ => (tt rfl (tsc (tn 7 nd) (tsc (tn 8 nd) tsn)))) (fun _ _ _ _ _ => pts0) (fun _ _ _ _ _ => (vtup (acons (vv 7) (acons (vix (vv 1) (vv 8)) anil))))) anil))) (sw_true rfl rfl rfl (by decide +kernel)))
    (scons (ssetF 3 nd (flst anil) (fun _ _ _ => dLst_lst))
    (scons (sfor PassesOwn.never rfl (il (vv 4)) (tn 5 nd) (sone (sif (nino hr 3 (vv 5)) (sone (sapp 3 (vv 5))) snil)))
    (sone (spre (o1 := []) (sset 1 nd (vlc rfl nd (il (vv 4)) (blkOk_by (own := [("sign", 5)]) (by kernel_rfl)) rfl (fun _ _ _ _ _ => (tn 5 nd)) (fun _ _ _ _ _ => pts0) (fun _ _ _ _ _ => (wcal (ok_place_of C) hr (by decide) (by rfl) (acons (vv 3) (acons (vv 5) anil))))))))))))))
    (sone (sret (vv 1)))))))
theorem ok_classes_of (C : Cm P w K mg base G) : OkP P w K mg base G "classes_of" ["table"] 2 F_classes_of := by
  obtain ⟨fd, Fu⟩ := C.says.def_ 13 (d := d_classes_of) rfl
  exact ⟨_, fd, C.g_classes_of, Fu.kp, Fu.bindsN fun _ _ _ _ _ _ us hl => match us, hl with | [_], _ => rfl, fn_p (st := s_classes_of) (N := N_classes_of) Fu sc_classes_of (b_classes_of C)⟩
end
end DL
end
section
set_option Elab.async false
set_option linter.all false
set_option maxRecDepth 100000
set_option maxHeartbeats 4000000
set_option autoImplicit false
/-! Each def computes it. Printed by gen.py. -/
namespace DL
open PySem PySem.Spec
open PyProof.Rows hiding St
open L2

section
variable {P : Program} {w : World} {K : PySem.W.Frag} {mg : Str → Option Value} {base : Heap} {G : Gp}
theorem b_runs_of (C : Cm P w K mg base G) {f : Addr} : Body G P w K mg base N_runs_of "runs_of" s_runs_of f 1 [] [] S_runs_of := fun cdv A outer s H E hr =>
  have nd := sc_runs_of.nd
  (scons (sset 1 nd (vtup anil))
    (scons (sfor PassesOwn.never rfl (iz (by rfl) C.m_zip (acons (wcal0 (ok_all_steps C) hr (by decide) (by rfl)) (acons (vv 0) anil))) (tt rfl (tsc (tn 2 nd) (tsc (tt rfl (tsc (tn 3 nd) (tsc (tn 4 nd) tsn))) tsn))) (scons (sif (PW.pt (wand (tcmp (o_ne hr) (vv 1) (vtup anil)) (wand1 (tcmp (o_eq hr) (vsl (vix (vv 1) (vneg vi)) (os vi) on) (vtup (acons (vv 3) (acons (vv 4) anil))))))) (sone (sset 1 nd (vsl (vv 1) on (os (vneg vi))))) snil)
    (sone (sset 1 nd (vop o_add (vv 1) (vtup (acons (vtup (acons (vv 2) (acons (vv 3) (acons (vv 4) anil)))) anil)))))))
    (sone (sret (vop o_add (vsl (vv 1) on (os (vneg vi))) (vtup (acons (vop o_add (vtup (acons vn anil)) (vsl (vix (vv 1) (vneg vi)) (os vi) on)) anil)))))))
theorem ok_runs_of (C : Cm P w K mg base G) : OkP P w K mg base G "runs_of" ["row"] 2 F_runs_of := by
  obtain ⟨fd, Fu⟩ := C.says.def_ 14 (d := d_runs_of) rfl
  exact ⟨_, fd, C.g_runs_of, Fu.kp, Fu.bindsN fun _ _ _ _ _ _ us hl => match us, hl with | [_], _ => rfl, fn_p (st := s_runs_of) (N := N_runs_of) Fu sc_runs_of (b_runs_of C)⟩
theorem b_least_of (C : Cm P w K mg base G) {f : Addr} : Body G P w K mg base N_least_of "least_of" s_least_of f 2 [] [] S_least_of := fun cdv A outer s H E hr =>
  have nd := sc_least_of.nd
  (scons (sset 1 nd (wcal (ok_classes_of C) hr (by decide) (by rfl) (acons (vv 0) anil)))
    (scons (ssetF 2 nd (flst (acons (vix (vv 1) vi) anil)) (fun _ _ _ => dLst_lst))
    (scons (ssetF 3 nd (flst anil) (fun _ _ _ => dLst_lst))
    (scons (swhile FU PassesOwn.never (tcmp (o_lt hr) (vleno 3 (by rfl) C.m_len bl_len) (vleno 2 (by rfl) C.m_len bl_len)) (scons (ssetLc 5 rfl nd (il (vix (vv 0) (wcal (ok_place_of C) hr (by decide) (by rfl) (acons (vv 1) (acons (vixo 2 (vleno 3 (by rfl) C.m_len bl_len)) anil))))) (blkOk_by (own := [("taken", 4), ("behind", 7)]) (by kernel_rfl)) rfl (fun _ _ _ _ _ => (tt rfl (tsc (tn 4 nd) (tsc (tn 7 nd) tsn)))) (fun _ _ _ _ _ => pts0) (fun _ _ _ _ _ => (vtup (acons (vv 4) (acons (vix (vv 1) (vv 7)) anil)))) (sw_true rfl rfl rfl (by decide +kernel)))
    (scons (sapp 3 (vv 5))
    (sone (sfor PassesOwn.never rfl (il (vv 5)) (tt rfl (tsc (tn 4 nd) (tsc (tn 6 nd) tsn))) (sone (sif (nino hr 2 (vv 6)) (sone (sapp 2 (vv 6))) snil)))))))
    (sone (spre (o1 := [2]) (spre (o1 := []) (sret (vct b_tuple (by rfl) C.m_tuple bl_tuple (acons (vlc rfl nd (il (vv 3)) (blkOk_by (own := [("row", 5)]) (by kernel_rfl)) rfl (fun _ _ _ _ _ => (tn 5 nd)) (fun _ _ _ _ _ => pts0) (fun _ _ _ _ _ => (wcal (ok_runs_of C) hr (by decide) (by rfl) (acons (vlc rfl nd (il (vv 5)) (blkOk_by (own := [("taken", 4), ("name", 6)]) (by kernel_rfl)) rfl (fun _ _ _ _ _ => (tt rfl (tsc (tn 4 nd) (tsc (tn 6 nd) tsn)))) (fun _ _ _ _ _ => pts0) (fun _ _ _ _ _ => (vtup (acons (vv 4) (acons (wcal (ok_place_of C) hr (by decide) (by rfl) (acons (vv 2) (acons (vv 6) anil))) anil))))) anil)))) anil))))))))))
theorem ok_least_of (C : Cm P w K mg base G) : OkP P w K mg base G "least_of" ["table"] 3 F_least_of := by
  obtain ⟨fd, Fu⟩ := C.says.def_ 15 (d := d_least_of) rfl
  exact ⟨_, fd, C.g_least_of, Fu.kp, Fu.bindsN fun _ _ _ _ _ _ us hl => match us, hl with | [_], _ => rfl, fn_p (st := s_least_of) (N := N_least_of) Fu sc_least_of (b_least_of C)⟩
theorem b_form_of (C : Cm P w K mg base G) {f : Addr} : Body G P w K mg base N_form_of "form_of" s_form_of f 5 [] [] S_form_of := fun cdv A outer s H E hr =>
  have nd := sc_form_of.nd
  (sone (sret (wcal (ok_least_of C) hr (by decide) (by rfl) (acons (wcal (ok_table_of C) hr (by decide) (by rfl) (acons (vv 0) anil)) anil))))
theorem ok_form_of (C : Cm P w K mg base G) : OkP P w K mg base G "form_of" ["receiver"] 6 F_form_of := by
  obtain ⟨fd, Fu⟩ := C.says.def_ 16 (d := d_form_of) rfl
  exact ⟨_, fd, C.g_form_of, Fu.kp, Fu.bindsN fun _ _ _ _ _ _ us hl => match us, hl with | [_], _ => rfl, fn_p (st := s_form_of) (N := N_form_of) Fu sc_form_of (b_form_of C)⟩
theorem b_run_at (C : Cm P w K mg base G) {f : Addr} : Body G P w K mg base N_run_at "run_at" s_run_at f 0 [] [] S_run_at := fun cdv A outer s H E hr =>
  have nd := sc_run_at.nd
  (scons (sfor PassesOwn.never rfl (it (vix (vv 0) (vv 1))) (tt rfl (tsc (tn 3 nd) (tsc (tn 4 nd) (tsc (tn 5 nd) tsn)))) (sone (sif (PW.pt (wor (tcmp o_is (vv 3) vn) (wor1 (tcmp o_le (vv 2) (vv 3))))) (sone (sret (vtup (acons (vv 4) (acons (vv 5) anil))))) snil)))
    (sone (sret vn)))
theorem ok_run_at (C : Cm P w K mg base G) : OkP P w K mg base G "run_at" ["form", "place", "step"] 1 F_run_at := by
  obtain ⟨fd, Fu⟩ := C.says.def_ 17 (d := d_run_at) rfl
  exact ⟨_, fd, C.g_run_at, Fu.kp, Fu.bindsN fun _ _ _ _ _ _ us hl => match us, hl with | [_, _, _], _ => rfl, fn_p (st := s_run_at) (N := N_run_at) Fu sc_run_at (b_run_at C)⟩
theorem b_hear (C : Cm P w K mg base G) {f : Addr} : Body G P w K mg base N_hear "hear" s_hear f 3 [] [] S_hear := fun cdv A outer s H E hr =>
  have nd := sc_hear.nd
  (scons (sset 3 nd (vix (vv 1) vi))
    (scons (stg (wcal (ok_step_from C) hr (by decide) (by rfl) (acons (vv 0) (acons (wcal (ok_rest_of C) hr (by decide) (by rfl) (acons (vv 1) anil)) (acons (vop o_sub (vv 2) (vv 3)) anil)))) (tt rfl (tsc (tn 4 nd) (tsc (tn 5 nd) tsn))))
    (scons (sif (tval (vv 4)) (sone (sret (vtup (acons vb (acons (vtup (acons (vix (vv 5) vi) (acons (vv 2) (acons vn anil)))) anil))))) snil)
    (sone (sret (vtup (acons vb (acons (vtup (acons (vix (vv 5) vi) (acons (vv 3) (acons (vif (tcmp (o_eq hr) (vcb b_len (by rfl) C.m_len bl_len (acons (vv 5) anil)) vi) (vop o_add (vv 3) (vix (vv 5) vi)) vn) anil)))) anil))))))))
theorem ok_hear (C : Cm P w K mg base G) : OkP P w K mg base G "hear" ["receiver", "stand", "number"] 4 F_hear := by
  obtain ⟨fd, Fu⟩ := C.says.def_ 18 (d := d_hear) rfl
  exact ⟨_, fd, C.g_hear, Fu.kp, Fu.bindsN fun _ _ _ _ _ _ us hl => match us, hl with | [_, _, _], _ => rfl, fn_p (st := s_hear) (N := N_hear) Fu sc_hear (b_hear C)⟩
theorem b_beginning (C : Cm P w K mg base G) {f : Addr} : Body G P w K mg base N_beginning "beginning" s_beginning f 0 [] [] S_beginning := fun cdv A outer s H E hr =>
  have nd := sc_beginning.nd
  (sone (sret (vtup (acons vi (acons (vv 0) (acons vn anil))))))
theorem ok_beginning (C : Cm P w K mg base G) : OkP P w K mg base G "beginning" ["last"] 1 F_beginning := by
  obtain ⟨fd, Fu⟩ := C.says.def_ 19 (d := d_beginning) rfl
  exact ⟨_, fd, C.g_beginning, Fu.kp, Fu.bindsN fun _ _ _ _ _ _ us hl => match us, hl with | [_], _ => rfl, fn_p (st := s_beginning) (N := N_beginning) Fu sc_beginning (b_beginning C)⟩
theorem b_walked (C : Cm P w K mg base G) {f : Addr} : Body G P w K mg base N_walked "walked" s_walked f 4 [] [] S_walked := fun cdv A outer s H E hr =>
  have nd := sc_walked.nd
  (scons (sset 3 nd (wcal (ok_beginning C) hr (by decide) (by rfl) (acons (vv 2) anil)))
    (scons (ssetF 4 nd (flst anil) (fun _ _ _ => dLst_lst))
    (scons (sfor PassesOwn.never rfl (it (vv 1)) (tn 5 nd) (scons (stg (wcal (ok_hear C) hr (by decide) (by rfl) (acons (vv 0) (acons (vv 3) (acons (vv 5) anil)))) (tt rfl (tsc (tn 6 nd) (tsc (tn 3 nd) tsn))))
    (sone (sapp 4 (vv 6)))))
    (sone (spre (o1 := []) (sret (vtup (acons (vct b_tuple (by rfl) C.m_tuple bl_tuple (acons (vv 4) anil)) (acons (vv 3) anil)))))))))
theorem ok_walked (C : Cm P w K mg base G) : OkP P w K mg base G "walked" ["receiver", "numbers", "last"] 5 F_walked := by
  obtain ⟨fd, Fu⟩ := C.says.def_ 20 (d := d_walked) rfl
  exact ⟨_, fd, C.g_walked, Fu.kp, Fu.bindsN fun _ _ _ _ _ _ us hl => match us, hl with | [_, _, _], _ => rfl, fn_p (st := s_walked) (N := N_walked) Fu sc_walked (b_walked C)⟩
theorem b_answers (C : Cm P w K mg base G) {f : Addr} : Body G P w K mg base N_answers "answers" s_answers f 5 [] [] S_answers := fun cdv A outer s H E hr =>
  have nd := sc_answers.nd
  (sone (sret (vix (wcal (ok_walked C) hr (by decide) (by rfl) (acons (vv 0) (acons (vv 1) (acons (vv 2) anil)))) vi)))
theorem ok_answers (C : Cm P w K mg base G) : OkK P w K mg base G "answers" ["receiver", "numbers", "last"] 2 "last" (.int 0) 6 F_answers := by
  obtain ⟨fd, Fu⟩ := C.says.def_ 21 (d := d_answers) rfl
  refine ⟨_, fd, C.g_answers, Fu.kp, ?_, ?_, fn_p (st := s_answers) (N := N_answers) Fu sc_answers (b_answers C)⟩
  · obtain ⟨ds, hv, hb⟩ := Fu.binds0 2 (ps := ["receiver", "numbers", "last"]) (by simp [He.DefD.kws]) rfl fun D doc pm an cdv ct us ks hu hk => match us, ks, hu, hk with | [_, _], [_], _, _ => ⟨_, _, _, _, _, _, rfl, rfl, rfl⟩
    exact ⟨_, ds, hv, fun R H => ⟨_, [], rfl, rfl, rfl⟩, hb⟩
  · exact kbn1 Fu fun kV doc pm an cdv ct us w hu => match us, hu with | [_, _], _ => rfl
theorem b_next_steps (C : Cm P w K mg base G) {f : Addr} : Body G P w K mg base N_next_steps "next_steps" s_next_steps f 1 [] [] S_next_steps := fun cdv A outer s H E hr =>
  have nd := sc_next_steps.nd
  (sone (sret (vif (tval (vv 1)) (vlr rfl (by rfl) C.m_list (rr2 (by rfl) C.m_range (wcal (ok_lesser C) hr (by decide) (by rfl) (acons (vop o_add (vv 0) vi) (acons (vgx (by rfl) C.i_FAR) anil))) (vop o_add (vgx (by rfl) C.i_FAR) vi))) (wcal0 (ok_all_steps C) hr (by decide) (by rfl)))))
theorem ok_next_steps (C : Cm P w K mg base G) : OkP P w K mg base G "next_steps" ["ahead", "rising"] 2 F_next_steps := by
  obtain ⟨fd, Fu⟩ := C.says.def_ 22 (d := d_next_steps) rfl
  exact ⟨_, fd, C.g_next_steps, Fu.kp, Fu.bindsN fun _ _ _ _ _ _ us hl => match us, hl with | [_, _], _ => rfl, fn_p (st := s_next_steps) (N := N_next_steps) Fu sc_next_steps (b_next_steps C)⟩
theorem b_ahead_behind (C : Cm P w K mg base G) {f : Addr} : Body G P w K mg base N_ahead_behind "ahead_behind" s_ahead_behind f 1 [] [] S_ahead_behind := fun cdv A outer s H E hr =>
  have nd := sc_ahead_behind.nd
  (sone (sret (vif (tval (vv 2)) vi (wcal (ok_greater C) hr (by decide) (by rfl) (acons (vv 0) (acons (vv 1) anil))))))
theorem ok_ahead_behind (C : Cm P w K mg base G) : OkP P w K mg base G "ahead_behind" ["ahead", "step", "taken"] 2 F_ahead_behind := by
  obtain ⟨fd, Fu⟩ := C.says.def_ 23 (d := d_ahead_behind) rfl
  exact ⟨_, fd, C.g_ahead_behind, Fu.kp, Fu.bindsN fun _ _ _ _ _ _ us hl => match us, hl with | [_, _, _], _ => rfl, fn_p (st := s_ahead_behind) (N := N_ahead_behind) Fu sc_ahead_behind (b_ahead_behind C)⟩
theorem upd_upd (H : Hp) (a : Addr) (u v : HO) : upd (upd H a u) a v = upd H a v := by
  funext b
  by_cases e : b = a
  · subst e; rw [upd_same, upd_same]
  · rw [upd_ne e, upd_ne e, upd_ne e]
theorem initOk (C : Cm P w K mg base G) : ∃ fd, Binds K fd ["self", "key", "before", "step", "taken"] [] ∧ FnOk P w K mg base CX0 1 (He.ma K (He.ga K "Node") "__init__") fd ["self", "key", "before", "step", "taken"] (spInit G) := by
  obtain ⟨fd, Fu⟩ := C.says.def_ 24 (d := d_nodeinit) rfl
  refine ⟨fd, Fu.bindsN fun _ _ _ _ _ _ us hl => match us, hl with | [_, _, _, _, _], _ => rfl, ?_⟩
  refine Fu.ok sc_nodeinit (fun vs H Q E h => ?_) (fun cdv A outer s H vs Q E hr h => ⟨_, PSs.nox (pss_cons (ps_fld (pv 0) (pv 1) rfl) (pss_cons (ps_fld (pv 0) (pv 2) rfl) (pss_cons (ps_fld (pv 0) (pv 3) rfl) (pss_one (ps_fld (pv 0) (pv 4) rfl))))), ?_⟩)
  · obtain ⟨x, dx, k, b, s, t, rfl, _⟩ := h
    rfl
  · obtain ⟨x, dx, k, b, s1, t, rfl, hx, q⟩ := h
    refine ⟨_, rfl, _, rfl, x, _, dx, [], rfl, hx, C.cl, C.na0, Nat.zero_lt_succ _, ?_⟩
    refine ⟨_, rfl, _, rfl, x, _, dx, _, rfl, upd_same, C.cl, C.na1, (by show (1 : Nat) < 1000; decide), ?_⟩
    refine ⟨_, rfl, _, rfl, x, _, dx, _, rfl, upd_same, C.cl, C.na2, (by show (2 : Nat) < 1000; decide), ?_⟩
    refine ⟨_, rfl, _, rfl, x, _, dx, _, rfl, upd_same, C.cl, C.na3, (by show (3 : Nat) < 1000; decide), ?_⟩
    rw [upd_upd, upd_upd, upd_upd]
    exact q
theorem wnode {X : Cx} {own : List Nat} {pos p : Pos} {e : Expr} {es : List Expr} {kx : Nat} {g : LD} (C : Cm X.prog X.w X.K X.mg X.base G) (hr : Room kx X.A) (hle : 2 ≤ kx) (hg : Gl X "Node") (ha : PA X (e :: es) (tA G own g))
    (he : starEach (e :: es) X.env = (false, eval e X.env) :: starEach es X.env := by rfl) (hpl : (backTo pos (starEach es X.env)).any (·.1) = false := by rfl) : PE X (.Call (.Name "Node" p) (e :: es) [] pos) (tD G own (dNode g)) := by
  obtain ⟨fd, hb, Fn⟩ := initOk C
  exact vnode C.mkn Fn (hr.mono hle) hg C.mNode hb ha (by decide) he hpl

theorem b_road (C : Cm P w K mg base G) {f : Addr} : Body G P w K mg base N_road "Node.road" s_road f 0 [] [] S_road := fun cdv A outer s H E hr =>
  have nd := sc_road.nd
  (scons (ssetF 1 nd (flst anil) (fun _ _ _ => dLst_lst))
    (scons (sset 2 nd (vv 0))
    (scons (swhile FU PassesOwn.never (tcmp o_isnot (vfld 1 C.cl C.na1 (vv 2)) vn) (scons (sapp 1 (vtup (acons (vfld 2 C.cl C.na2 (vv 2)) (acons (vfld 3 C.cl C.na3 (vv 2)) anil))))
    (sone (sset 2 nd (vfld 1 C.cl C.na1 (vv 2))))))
    (sone (spre (o1 := []) (sret (vrev (vv 1))))))))
theorem ok_road (C : Cm P w K mg base G) : ∃ fd, Binds K fd ["self"] [] ∧ FnOk P w K mg base CX0 1 (He.ma K (He.ga K "Node") "road") fd ["self"] (spP G 1 F_road) := by
  obtain ⟨fd, Fu⟩ := C.says.def_ 25 (d := d_road) rfl
  exact ⟨fd, Fu.bindsN fun _ _ _ _ _ _ us hl => match us, hl with | [_], _ => rfl, fn_p (st := s_road) (N := N_road) Fu sc_road (b_road C)⟩
theorem wroad {X : Cx} {own : List Nat} {pos apos : Pos} {e : Expr} {kx : Nat} {pl : Sem Bool} {fe : TD} (C : Cm X.prog X.w X.K X.mg X.base G) (hr : Room kx X.A) (hle : 1 ≤ kx) (h : PE X e (tD G own fe))
    (ht : eval (.Call (.Attribute e "road" apos) [] [] pos) X.env = (do
      let ov ← eval e X.env
      standAt apos.atName
      let (f, first) ← holding [ov] (getMethod ov "road" pl)
      callWith pos f first (backTo pos (starEach [] X.env)) (backToKw pos (keywordEach [] X.env))) := by rfl) : PE X (.Call (.Attribute e "road" apos) [] [] pos) (tD G own (dMet F_road fe)) := by
  obtain ⟨fd, hb, Fn⟩ := ok_road C
  exact vmet h C.cl C.mt Fn (hr.mono hle) hb (fun _ _ _ _ => rfl) ht

theorem b_numbers_by (C : Cm P w K mg base G) {f : Addr} : Body G P w K mg base N_numbers_by "numbers_by" s_numbers_by f 1 [] [] S_numbers_by := fun cdv A outer s H E hr =>
  have nd := sc_numbers_by.nd
  (scons (sset 1 nd vi)
    (scons (sset 2 nd vi)
    (scons (ssetF 3 nd (flst anil) (fun _ _ _ => dLst_lst))
    (scons (sfor PassesOwn.never rfl (il (vv 0)) (tt rfl (tsc (tn 4 nd) (tsc (tn 5 nd) tsn))) (scons (sset 6 nd (vif (tcmp (o_eq hr) (vv 4) (vgx (by rfl) C.i_FAR)) (wcal (ok_greater C) hr (by decide) (by rfl) (acons (vop o_add (vv 1) (vv 4)) (acons (vop o_add (vv 2) vi) anil))) (vop o_add (vv 1) (vv 4))))
    (scons (sapp 3 (vv 6))
    (scons (sset 2 nd (wcal (ok_greater C) hr (by decide) (by rfl) (acons (vv 2) (acons (vv 6) anil))))
    (sone (sif (tval (vv 5)) (sone (sset 1 nd (vv 6))) snil))))))
    (sone (spre (o1 := []) (sret (vct b_tuple (by rfl) C.m_tuple bl_tuple (acons (vv 3) anil)))))))))
theorem ok_numbers_by (C : Cm P w K mg base G) : OkP P w K mg base G "numbers_by" ["road"] 2 F_numbers_by := by
  obtain ⟨fd, Fu⟩ := C.says.def_ 26 (d := d_numbers_by) rfl
  exact ⟨_, fd, C.g_numbers_by, Fu.kp, Fu.bindsN fun _ _ _ _ _ _ us hl => match us, hl with | [_], _ => rfl, fn_p (st := s_numbers_by) (N := N_numbers_by) Fu sc_numbers_by (b_numbers_by C)⟩
theorem b_nodes_from (C : Cm P w K mg base G) {f : Addr} : Body G P w K mg base N_nodes_from "nodes_from" s_nodes_from f 2 [] [] S_nodes_from := fun cdv A outer s H E hr =>
  have nd := sc_nodes_from.nd
  (scons (stg (vfld 0 C.cl C.na0 (vv 0)) (tt rfl (tsc (tn 3 nd) (tsc (tn 4 nd) (tsc (tn 5 nd) tsn)))))
    (scons (ssetF 6 nd (flst anil) (fun _ _ _ => dLst_lst))
    (scons (sfor PassesOwn.never rfl (il (wcal (ok_next_steps C) hr (by decide) (by rfl) (acons (vv 5) (acons (vv 2) anil)))) (tn 7 nd) (scons (stg (wcal (ok_run_at C) hr (by decide) (by rfl) (acons (vix (vv 1) vi) (acons (vv 3) (acons (vv 7) anil)))) (tt rfl (tsc (tn 8 nd) (tsc (tn 9 nd) tsn))))
    (scons (stg (wcal (ok_run_at C) hr (by decide) (by rfl) (acons (vix (vv 1) vi) (acons (vv 4) (acons (vv 7) anil)))) (tt rfl (tsc (tn 10 nd) (tsc (tn 11 nd) tsn))))
    (scons (sset 12 nd (vif (tval (vv 2)) (wcal (ok_ahead_behind C) hr (by decide) (by rfl) (acons (vv 5) (acons (vv 7) (acons (vv 8) anil)))) vi))
    (scons (sset 13 nd (wnode C hr (by decide) (by rfl) (acons (vtup (acons (vv 9) (acons (vv 11) (acons (vv 12) anil)))) (acons (vv 0) (acons (vv 7) (acons (vv 8) anil))))))
    (scons (sif (tcmp (o_ne hr) (vv 8) (vv 10)) (sone (spre (o1 := []) (sret (vtup (acons (vv 6) (acons (vv 13) anil)))))) snil)
    (sone (sapp 6 (vv 13)))))))))
    (sone (spre (o1 := []) (sret (vtup (acons (vv 6) (acons vn anil)))))))))
theorem ok_nodes_from (C : Cm P w K mg base G) : OkP P w K mg base G "nodes_from" ["node", "forms", "rising"] 3 F_nodes_from := by
  obtain ⟨fd, Fu⟩ := C.says.def_ 27 (d := d_nodes_from) rfl
  exact ⟨_, fd, C.g_nodes_from, Fu.kp, Fu.bindsN fun _ _ _ _ _ _ us hl => match us, hl with | [_, _, _], _ => rfl, fn_p (st := s_nodes_from) (N := N_nodes_from) Fu sc_nodes_from (b_nodes_from C)⟩
end
end DL
end
section
set_option Elab.async false
set_option linter.all false
set_option maxRecDepth 100000
set_option maxHeartbeats 4000000
set_option autoImplicit false
/-! Each def computes it. Printed by gen.py. -/
namespace DL
open PySem PySem.Spec
open PyProof.Rows hiding St
open L2

section
variable {P : Program} {w : World} {K : PySem.W.Frag} {mg : Str → Option Value} {base : Heap} {G : Gp}
theorem b_all_nodes (C : Cm P w K mg base G) {f : Addr} : Body G P w K mg base N_all_nodes "all_nodes" s_all_nodes f 3 [] [] S_all_nodes := fun cdv A outer s H E hr =>
  have nd := sc_all_nodes.nd
  (scons (sset 3 nd (vlst (acons (wnode C hr (by decide) (by rfl) (acons (vop o_add (vv 1) (vtup (acons vi anil))) (acons vn (acons vi (acons vb anil))))) anil)))
    (scons (sset 4 nd (vlst anil))
    (scons (swhile FU PassesOwn.never (tnn hr (vv 3)) (scons (sset 4 nd (vop o_add (vv 4) (vv 3)))
    (scons (sset 6 nd (vdc hr C.gp rfl nd (il (vv 4)) (blkOk_by (own := [("node", 5)]) (by kernel_rfl)) rfl (fun _ _ _ _ _ => (tn 5 nd)) (fun _ _ _ _ _ => (vfld 0 C.cl C.na0 (vv 5))) (fun _ _ _ _ _ => vb)))
    (scons (ssetF 7 nd (flst anil) (fun _ _ _ => dLst_lst))
    (scons (sfor PassesOwn.never rfl (il (vv 3)) (tn 5 nd) (scons (stg (wcal (ok_nodes_from C) hr (by decide) (by rfl) (acons (vv 5) (acons (vv 0) (acons (vv 2) anil)))) (tt rfl (tsc (tn 8 nd) (tsc (tn 9 nd) tsn))))
    (scons (sif (tcmp o_isnot (vv 9) vn) (sone (sret (vtup (acons (vv 4) (acons (vv 9) anil))))) snil)
    (sone (sext 7 (vlc rfl nd (il (vv 8)) (blkOk_by (own := [("further", 10)]) (by kernel_rfl)) rfl (fun _ _ _ _ _ => (tn 10 nd)) (fun _ _ _ _ _ => (pts1 (tcmp (o_notind hr C.gp) (vfld 0 C.cl C.na0 (vv 10)) (vv 6)))) (fun _ _ _ _ _ => (vv 10))))))))
    (sone (spre (o1 := []) (sset 3 nd (vlistv rfl C.gp (by rfl) C.m_list (vdc hr C.gp rfl nd (il (vrev (vv 7))) (blkOk_by (own := [("node", 5)]) (by kernel_rfl)) rfl (fun _ _ _ _ _ => (tn 5 nd)) (fun _ _ _ _ _ => (vfld 0 C.cl C.na0 (vv 5))) (fun _ _ _ _ _ => (vv 5))))))))))))
    (sone (sret (vtup (acons (vv 4) (acons vn anil))))))))
theorem ok_all_nodes (C : Cm P w K mg base G) : OkP P w K mg base G "all_nodes" ["forms", "begin", "rising"] 4 F_all_nodes := by
  obtain ⟨fd, Fu⟩ := C.says.def_ 28 (d := d_all_nodes) rfl
  exact ⟨_, fd, C.g_all_nodes, Fu.kp, Fu.bindsN fun _ _ _ _ _ _ us hl => match us, hl with | [_, _, _], _ => rfl, fn_p (st := s_all_nodes) (N := N_all_nodes) Fu sc_all_nodes (b_all_nodes C)⟩
theorem b_parting (C : Cm P w K mg base G) {f : Addr} : Body G P w K mg base N_parting "parting" s_parting f 6 [] [] S_parting := fun cdv A outer s H E hr =>
  have nd := sc_parting.nd
  (scons (sset 3 nd (vix (wcal (ok_all_nodes C) hr (by decide) (by rfl) (acons (vtup (acons (wcal (ok_form_of C) hr (by decide) (by rfl) (acons (vv 0) anil)) (acons (wcal (ok_form_of C) hr (by decide) (by rfl) (acons (vv 1) anil)) anil))) (acons (vtup (acons vi (acons vi anil))) (acons (vv 2) anil)))) vi))
    (sone (sret (vif (tcmp o_is (vv 3) vn) vn (wcal (ok_numbers_by C) hr (by decide) (by rfl) (acons (wroad C hr (by decide) (vv 3)) anil))))))
theorem ok_parting (C : Cm P w K mg base G) : OkK P w K mg base G "parting" ["one", "other", "rising"] 2 "rising" (.bl false) 7 F_parting := by
  obtain ⟨fd, Fu⟩ := C.says.def_ 29 (d := d_parting) rfl
  refine ⟨_, fd, C.g_parting, Fu.kp, ?_, ?_, fn_p (st := s_parting) (N := N_parting) Fu sc_parting (b_parting C)⟩
  · obtain ⟨ds, hv, hb⟩ := Fu.binds0 2 (ps := ["one", "other", "rising"]) (by simp [He.DefD.kws]) rfl fun D doc pm an cdv ct us ks hu hk => match us, ks, hu, hk with | [_, _], [_], _, _ => ⟨_, _, _, _, _, _, rfl, rfl, rfl⟩
    exact ⟨_, ds, hv, fun R H => ⟨_, [], rfl, rfl, rfl⟩, hb⟩
  · exact kbn1 Fu fun kV doc pm an cdv ct us w hu => match us, hu with | [_, _], _ => rfl
theorem b_alike (C : Cm P w K mg base G) {f : Addr} : Body G P w K mg base N_alike "alike" s_alike f 7 [] [] S_alike := fun cdv A outer s H E hr =>
  have nd := sc_alike.nd
  (sone (sret (vcmp o_is (wcalN (ok_parting C) hr (by decide) (by rfl) (acons (vv 0) (acons (vv 1) anil)) (vv 2)) vn)))
theorem ok_alike (C : Cm P w K mg base G) : OkK P w K mg base G "alike" ["one", "other", "rising"] 2 "rising" (.bl false) 8 F_alike := by
  obtain ⟨fd, Fu⟩ := C.says.def_ 30 (d := d_alike) rfl
  refine ⟨_, fd, C.g_alike, Fu.kp, ?_, ?_, fn_p (st := s_alike) (N := N_alike) Fu sc_alike (b_alike C)⟩
  · obtain ⟨ds, hv, hb⟩ := Fu.binds0 2 (ps := ["one", "other", "rising"]) (by simp [He.DefD.kws]) rfl fun D doc pm an cdv ct us ks hu hk => match us, ks, hu, hk with | [_, _], [_], _, _ => ⟨_, _, _, _, _, _, rfl, rfl, rfl⟩
    exact ⟨_, ds, hv, fun R H => ⟨_, [], rfl, rfl, rfl⟩, hb⟩
  · exact kbn1 Fu fun kV doc pm an cdv ct us w hu => match us, hu with | [_, _], _ => rfl
theorem b_is_rising (C : Cm P w K mg base G) {f : Addr} : Body G P w K mg base N_is_rising "is_rising" s_is_rising f 0 [] [] S_is_rising := fun cdv A outer s H E hr =>
  have nd := sc_is_rising.nd
  (sone (sret (vcb (b_all rfl) (by rfl) C.m_all bl_all (acons (vlc rfl nd (iz (by rfl) C.m_zip (acons (vop o_add (vtup (acons vi anil)) (vv 0)) (acons (vv 0) anil))) (blkOk_by (own := [("one", 1), ("other", 2)]) (by kernel_rfl)) rfl (fun _ _ _ _ _ => (tt rfl (tsc (tn 1 nd) (tsc (tn 2 nd) tsn)))) (fun _ _ _ _ _ => pts0) (fun _ _ _ _ _ => (vcmp (o_lt hr) (vv 1) (vv 2)))) anil))))
theorem ok_is_rising (C : Cm P w K mg base G) : OkP P w K mg base G "is_rising" ["numbers"] 1 F_is_rising := by
  obtain ⟨fd, Fu⟩ := C.says.def_ 31 (d := d_is_rising) rfl
  exact ⟨_, fd, C.g_is_rising, Fu.kp, Fu.bindsN fun _ _ _ _ _ _ us hl => match us, hl with | [_], _ => rfl, fn_p (st := s_is_rising) (N := N_is_rising) Fu sc_is_rising (b_is_rising C)⟩
theorem b_are_numbers (C : Cm P w K mg base G) {f : Addr} : Body G P w K mg base N_are_numbers "are_numbers" s_are_numbers f 1 [] [] S_are_numbers := fun cdv A outer s H E hr =>
  have nd := sc_are_numbers.nd
  (sone (sret (vand (visi (by rfl) C.m_isinstance bl_isinstance (by rfl) C.m_tuple bl_tuple (vv 0)) (vone (vcb (b_all rfl) (by rfl) C.m_all bl_all (acons (vlc rfl nd (it (vv 0)) (blkOk_by (own := [("number", 1)]) (by kernel_rfl)) rfl (fun _ _ _ _ _ => (tn 1 nd)) (fun _ _ _ _ _ => pts0) (fun _ _ _ _ _ => (wcal (ok_is_integer C) hr (by decide) (by rfl) (acons (vv 1) anil)))) anil))))))
theorem ok_are_numbers (C : Cm P w K mg base G) : OkP P w K mg base G "are_numbers" ["value"] 2 F_are_numbers := by
  obtain ⟨fd, Fu⟩ := C.says.def_ 32 (d := d_are_numbers) rfl
  exact ⟨_, fd, C.g_are_numbers, Fu.kp, Fu.bindsN fun _ _ _ _ _ _ us hl => match us, hl with | [_], _ => rfl, fn_p (st := s_are_numbers) (N := N_are_numbers) Fu sc_are_numbers (b_are_numbers C)⟩
theorem b_parting_holds (C : Cm P w K mg base G) {f : Addr} : Body G P w K mg base N_parting_holds "parting_holds" s_parting_holds f 6 [] [] S_parting_holds := fun cdv A outer s H E hr =>
  have nd := sc_parting_holds.nd
  (scons (sif (PW.pt (wor (tnot (tval (wcal (ok_are_numbers C) hr (by decide) (by rfl) (acons (vv 2) anil)))) (wor (tcmp (o_eq hr) (vv 2) (vtup anil)) (wor1 (PW.pt (wand (tval (vv 3)) (wand1 (tnot (tval (wcal (ok_is_rising C) hr (by decide) (by rfl) (acons (vv 2) anil))))))))))) (sone (sret vb)) snil)
    (scons (spar 4 5 rfl nd (acons (wcalD (ok_answers C) hr (by decide) (by rfl) (acons (vv 0) (acons (vv 2) anil))) (acons (wcalD (ok_answers C) hr (by decide) (by rfl) (acons (vv 1) (acons (vv 2) anil))) anil)))
    (sone (sret (vand (vcmp (o_eq hr) (vsl (vv 4) on (os (vneg vi))) (vsl (vv 5) on (os (vneg vi)))) (vone (vcmp (o_ne hr) (vv 4) (vv 5))))))))
theorem ok_parting_holds (C : Cm P w K mg base G) : OkK P w K mg base G "parting_holds" ["one", "other", "value", "rising"] 3 "rising" (.bl false) 7 F_parting_holds := by
  obtain ⟨fd, Fu⟩ := C.says.def_ 33 (d := d_parting_holds) rfl
  refine ⟨_, fd, C.g_parting_holds, Fu.kp, ?_, ?_, fn_p (st := s_parting_holds) (N := N_parting_holds) Fu sc_parting_holds (b_parting_holds C)⟩
  · obtain ⟨ds, hv, hb⟩ := Fu.binds0 3 (ps := ["one", "other", "value", "rising"]) (by simp [He.DefD.kws]) rfl fun D doc pm an cdv ct us ks hu hk => match us, ks, hu, hk with | [_, _, _], [_], _, _ => ⟨_, _, _, _, _, _, rfl, rfl, rfl⟩
    exact ⟨_, ds, hv, fun R H => ⟨_, [], rfl, rfl, rfl⟩, hb⟩
  · exact kbn1 Fu fun kV doc pm an cdv ct us w hu => match us, hu with | [_, _, _], _ => rfl
theorem b_keys_behind (C : Cm P w K mg base G) {f : Addr} : Body G P w K mg base N_keys_behind "keys_behind" s_keys_behind f 2 [] [] S_keys_behind := fun cdv A outer s H E hr =>
  have nd := sc_keys_behind.nd
  (scons (stg (vv 1) (tt rfl (tsc (tn 3 nd) (tsc (tn 4 nd) (tsc (tn 5 nd) tsn)))))
    (scons (ssetF 6 nd (flst anil) (fun _ _ _ => dLst_lst))
    (scons (sfor PassesOwn.never rfl (il (wcal (ok_next_steps C) hr (by decide) (by rfl) (acons (vv 5) (acons (vv 2) anil)))) (tn 7 nd) (scons (stg (wcal (ok_run_at C) hr (by decide) (by rfl) (acons (vix (vv 0) vi) (acons (vv 3) (acons (vv 7) anil)))) (tt rfl (tsc (tn 8 nd) (tsc (tn 9 nd) tsn))))
    (scons (stg (wcal (ok_run_at C) hr (by decide) (by rfl) (acons (vix (vv 0) vi) (acons (vv 4) (acons (vv 7) anil)))) (tt rfl (tsc (tn 10 nd) (tsc (tn 11 nd) tsn))))
    (scons (sif (PW.pt (wand (tval (vv 8)) (wand1 (tnot (tval (vv 10)))))) (sone (sret vn)) snil)
    (sone (sif (tcmp (o_eq hr) (vv 8) (vv 10)) (sone (sapp 6 (vtup (acons (vv 9) (acons (vv 11) (acons (vif (tval (vv 2)) (wcal (ok_ahead_behind C) hr (by decide) (by rfl) (acons (vv 5) (acons (vv 7) (acons (vv 8) anil)))) vi) anil)))))) snil))))))
    (sone (spre (o1 := []) (sret (vv 6)))))))
theorem ok_keys_behind (C : Cm P w K mg base G) : OkP P w K mg base G "keys_behind" ["forms", "key", "rising"] 3 F_keys_behind := by
  obtain ⟨fd, Fu⟩ := C.says.def_ 34 (d := d_keys_behind) rfl
  exact ⟨_, fd, C.g_keys_behind, Fu.kp, Fu.bindsN fun _ _ _ _ _ _ us hl => match us, hl with | [_, _, _], _ => rfl, fn_p (st := s_keys_behind) (N := N_keys_behind) Fu sc_keys_behind (b_keys_behind C)⟩
theorem b_below (C : Cm P w K mg base G) {f : Addr} : Body G P w K mg base N_below "below" s_below f 6 [] [] S_below := fun cdv A outer s H E hr =>
  have nd := sc_below.nd
  (scons (sset 3 nd (vtup (acons (wcal (ok_form_of C) hr (by decide) (by rfl) (acons (vv 0) anil)) (acons (wcal (ok_form_of C) hr (by decide) (by rfl) (acons (vv 1) anil)) anil))))
    (scons (sset 4 nd (vlst (acons (vtup (acons vi (acons vi (acons vi anil)))) anil)))
    (scons (sset 5 nd (vlst anil))
    (scons (swhile FU PassesOwn.never (tnn hr (vv 4)) (scons (sset 5 nd (vop o_add (vv 5) (vv 4)))
    (scons (sset 7 nd (vdc hr C.gp rfl nd (il (vv 5)) (blkOk_by (own := [("key", 6)]) (by kernel_rfl)) rfl (fun _ _ _ _ _ => (tn 6 nd)) (fun _ _ _ _ _ => (vv 6)) (fun _ _ _ _ _ => vb)))
    (scons (ssetF 8 nd (flst anil) (fun _ _ _ => dLst_lst))
    (scons (sfor PassesOwn.never rfl (il (vv 4)) (tn 6 nd) (scons (sset 9 nd (wcal (ok_keys_behind C) hr (by decide) (by rfl) (acons (vv 3) (acons (vv 6) (acons (vv 2) anil)))))
    (scons (sif (tcmp o_is (vv 9) vn) (sone (sret vb)) snil)
    (sone (sext 8 (vlc rfl nd (il (vv 9)) (blkOk_by (own := [("further", 10)]) (by kernel_rfl)) rfl (fun _ _ _ _ _ => (tn 10 nd)) (fun _ _ _ _ _ => (pts1 (tcmp (o_notind hr C.gp) (vv 10) (vv 7)))) (fun _ _ _ _ _ => (vv 10))))))))
    (sone (spre (o1 := []) (sset 4 nd (vct (b_listD rfl C.gp) (by rfl) C.m_list bl_list (acons (vdc hr C.gp rfl nd (il (vv 8)) (blkOk_by (own := [("key", 6)]) (by kernel_rfl)) rfl (fun _ _ _ _ _ => (tn 6 nd)) (fun _ _ _ _ _ => (vv 6)) (fun _ _ _ _ _ => vb)) anil))))))))))
    (sone (sret vb))))))
theorem ok_below (C : Cm P w K mg base G) : OkK P w K mg base G "below" ["one", "other", "rising"] 2 "rising" (.bl false) 7 F_below := by
  obtain ⟨fd, Fu⟩ := C.says.def_ 35 (d := d_below) rfl
  refine ⟨_, fd, C.g_below, Fu.kp, ?_, ?_, fn_p (st := s_below) (N := N_below) Fu sc_below (b_below C)⟩
  · obtain ⟨ds, hv, hb⟩ := Fu.binds0 2 (ps := ["one", "other", "rising"]) (by simp [He.DefD.kws]) rfl fun D doc pm an cdv ct us ks hu hk => match us, ks, hu, hk with | [_, _], [_], _, _ => ⟨_, _, _, _, _, _, rfl, rfl, rfl⟩
    exact ⟨_, ds, hv, fun R H => ⟨_, [], rfl, rfl, rfl⟩, hb⟩
  · exact kbn1 Fu fun kV doc pm an cdv ct us w hu => match us, hu with | [_, _], _ => rfl
theorem b_pairs_behind (C : Cm P w K mg base G) {f : Addr} : Body G P w K mg base N_pairs_behind "pairs_behind" s_pairs_behind f 3 [] [] S_pairs_behind := fun cdv A outer s H E hr =>
  have nd := sc_pairs_behind.nd
  (scons (ssetF 3 nd (flst anil) (fun _ _ _ => dLst_lst))
    (scons (sfor PassesOwn.never rfl (il (wcal0 (ok_all_steps C) hr (by decide) (by rfl))) (tn 4 nd) (scons (stg (wcal (ok_step_from C) hr (by decide) (by rfl) (acons (vv 0) (acons (vix (vv 2) vi) (acons (vv 4) anil)))) (tt rfl (tsc (tn 5 nd) (tsc (tn 6 nd) tsn))))
    (scons (stg (wcal (ok_step_from C) hr (by decide) (by rfl) (acons (vv 1) (acons (vix (vv 2) vi) (acons (vv 4) anil)))) (tt rfl (tsc (tn 7 nd) (tsc (tn 8 nd) tsn))))
    (scons (sif (tcmp (o_ne hr) (vv 5) (vv 7)) (sone (sret vn)) snil)
    (sone (sapp 3 (vtup (acons (vv 6) (acons (vv 8) anil)))))))))
    (sone (spre (o1 := []) (sret (vv 3))))))
theorem ok_pairs_behind (C : Cm P w K mg base G) : OkP P w K mg base G "pairs_behind" ["one", "other", "pair"] 4 F_pairs_behind := by
  obtain ⟨fd, Fu⟩ := C.says.def_ 36 (d := d_pairs_behind) rfl
  exact ⟨_, fd, C.g_pairs_behind, Fu.kp, Fu.bindsN fun _ _ _ _ _ _ us hl => match us, hl with | [_, _, _], _ => rfl, fn_p (st := s_pairs_behind) (N := N_pairs_behind) Fu sc_pairs_behind (b_pairs_behind C)⟩
theorem b_pairs_met (C : Cm P w K mg base G) {f : Addr} : Body G P w K mg base N_pairs_met "pairs_met" s_pairs_met f 4 [] [] S_pairs_met := fun cdv A outer s H E hr =>
  have nd := sc_pairs_met.nd
  (scons (sset 3 nd (vlst (acons (vv 2) anil)))
    (scons (sset 4 nd (vlst anil))
    (scons (swhile FU PassesOwn.never (tnn hr (vv 3)) (scons (sset 4 nd (vop o_add (vv 4) (vv 3)))
    (scons (sset 6 nd (vdc hr C.gp rfl nd (il (vv 4)) (blkOk_by (own := [("pair", 5)]) (by kernel_rfl)) rfl (fun _ _ _ _ _ => (tn 5 nd)) (fun _ _ _ _ _ => (vv 5)) (fun _ _ _ _ _ => vb)))
    (scons (ssetF 7 nd (flst anil) (fun _ _ _ => dLst_lst))
    (scons (sfor PassesOwn.never rfl (il (vv 3)) (tn 5 nd) (scons (sset 8 nd (wcal (ok_pairs_behind C) hr (by decide) (by rfl) (acons (vv 0) (acons (vv 1) (acons (vv 5) anil)))))
    (scons (sif (tcmp o_is (vv 8) vn) (sone (sret vn)) snil)
    (sone (sext 7 (vlc rfl nd (il (vv 8)) (blkOk_by (own := [("further", 9)]) (by kernel_rfl)) rfl (fun _ _ _ _ _ => (tn 9 nd)) (fun _ _ _ _ _ => (pts1 (tcmp (o_notind hr C.gp) (vv 9) (vv 6)))) (fun _ _ _ _ _ => (vv 9))))))))
    (sone (spre (o1 := []) (sset 3 nd (vct (b_listD rfl C.gp) (by rfl) C.m_list bl_list (acons (vdc hr C.gp rfl nd (il (vv 7)) (blkOk_by (own := [("pair", 5)]) (by kernel_rfl)) rfl (fun _ _ _ _ _ => (tn 5 nd)) (fun _ _ _ _ _ => (vv 5)) (fun _ _ _ _ _ => vb)) anil))))))))))
    (sone (sret (vv 4))))))
theorem ok_pairs_met (C : Cm P w K mg base G) : OkP P w K mg base G "pairs_met" ["one", "other", "begin"] 5 F_pairs_met := by
  obtain ⟨fd, Fu⟩ := C.says.def_ 37 (d := d_pairs_met) rfl
  exact ⟨_, fd, C.g_pairs_met, Fu.kp, Fu.bindsN fun _ _ _ _ _ _ us hl => match us, hl with | [_, _, _], _ => rfl, fn_p (st := s_pairs_met) (N := N_pairs_met) Fu sc_pairs_met (b_pairs_met C)⟩
theorem b_pairing_of (C : Cm P w K mg base G) {f : Addr} : Body G P w K mg base N_pairing_of "pairing_of" s_pairing_of f 5 [] [] S_pairing_of := fun cdv A outer s H E hr =>
  have nd := sc_pairing_of.nd
  (scons (sset 2 nd (wcal (ok_pairs_met C) hr (by decide) (by rfl) (acons (vv 0) (acons (vv 1) (acons (vtup (acons (vtup (acons vi anil)) (acons (vtup (acons vi anil)) anil))) anil)))))
    (sone (sret (vif (tcmp o_is (vv 2) vn) vn (wcal (ok_in_order C) hr (by decide) (by rfl) (acons (vv 2) anil))))))
theorem ok_pairing_of (C : Cm P w K mg base G) : OkP P w K mg base G "pairing_of" ["one", "other"] 6 F_pairing_of := by
  obtain ⟨fd, Fu⟩ := C.says.def_ 38 (d := d_pairing_of) rfl
  exact ⟨_, fd, C.g_pairing_of, Fu.kp, Fu.bindsN fun _ _ _ _ _ _ us hl => match us, hl with | [_, _], _ => rfl, fn_p (st := s_pairing_of) (N := N_pairing_of) Fu sc_pairing_of (b_pairing_of C)⟩
theorem b_is_rest (C : Cm P w K mg base G) {f : Addr} : Body G P w K mg base N_is_rest "is_rest" s_is_rest f 1 [] [] S_is_rest := fun cdv A outer s H E hr =>
  have nd := sc_is_rest.nd
  (scons (sif (PW.pt (wor (tnot (tval (visi (by rfl) C.m_isinstance bl_isinstance (by rfl) C.m_tuple bl_tuple (vv 1)))) (wor (tnot (tchain o_le o_le vi (vcb b_len (by rfl) C.m_len bl_len (acons (vv 1) anil)) vi)) (wor1 (tnot (tval (vcb (b_all rfl) (by rfl) C.m_all bl_all (acons (vlc rfl nd (it (vv 1)) (blkOk_by (own := [("item", 3)]) (by kernel_rfl)) rfl (fun _ _ _ _ _ => (tn 3 nd)) (fun _ _ _ _ _ => pts0) (fun _ _ _ _ _ => (wcal (ok_is_integer C) hr (by decide) (by rfl) (acons (vv 3) anil)))) anil)))))))) (sone (sret vb)) snil)
    (sone (sret (vand (vchain o_le (o_lt hr) vi (vix (vv 1) vi) (vcb b_len (by rfl) C.m_len bl_len (acons (vv 0) anil))) (vone (vcb (b_all rfl) (by rfl) C.m_all bl_all (acons (vlc rfl nd (it (vsl (vv 1) (os vi) on)) (blkOk_by (own := [("gap", 2)]) (by kernel_rfl)) rfl (fun _ _ _ _ _ => (tn 2 nd)) (fun _ _ _ _ _ => pts0) (fun _ _ _ _ _ => (vcmp o_le (vcb b_abs (by rfl) C.m_abs bl_abs (acons (vv 2) anil)) (vgx (by rfl) C.i_MAX_BOUND)))) anil)))))))
theorem ok_is_rest (C : Cm P w K mg base G) : OkP P w K mg base G "is_rest" ["receiver", "value"] 2 F_is_rest := by
  obtain ⟨fd, Fu⟩ := C.says.def_ 39 (d := d_is_rest) rfl
  exact ⟨_, fd, C.g_is_rest, Fu.kp, Fu.bindsN fun _ _ _ _ _ _ us hl => match us, hl with | [_, _], _ => rfl, fn_p (st := s_is_rest) (N := N_is_rest) Fu sc_is_rest (b_is_rest C)⟩
theorem b_is_pair (C : Cm P w K mg base G) {f : Addr} : Body G P w K mg base N_is_pair "is_pair" s_is_pair f 2 [] [] S_is_pair := fun cdv A outer s H E hr =>
  have nd := sc_is_pair.nd
  (sone (sret (vand (visi (by rfl) C.m_isinstance bl_isinstance (by rfl) C.m_tuple bl_tuple (vv 2)) (vand (vcmp (o_eq hr) (vcb b_len (by rfl) C.m_len bl_len (acons (vv 2) anil)) vi) (vand (wcal (ok_is_rest C) hr (by decide) (by rfl) (acons (vv 0) (acons (vix (vv 2) vi) anil))) (vone (wcal (ok_is_rest C) hr (by decide) (by rfl) (acons (vv 1) (acons (vix (vv 2) vi) anil)))))))))
theorem ok_is_pair (C : Cm P w K mg base G) : OkP P w K mg base G "is_pair" ["one", "other", "value"] 3 F_is_pair := by
  obtain ⟨fd, Fu⟩ := C.says.def_ 40 (d := d_is_pair) rfl
  exact ⟨_, fd, C.g_is_pair, Fu.kp, Fu.bindsN fun _ _ _ _ _ _ us hl => match us, hl with | [_, _, _], _ => rfl, fn_p (st := s_is_pair) (N := N_is_pair) Fu sc_is_pair (b_is_pair C)⟩
theorem b_pairing_holds (C : Cm P w K mg base G) {f : Addr} : Body G P w K mg base N_pairing_holds "pairing_holds" s_pairing_holds f 4 [] [] S_pairing_holds := fun cdv A outer s H E hr =>
  have nd := sc_pairing_holds.nd
  (scons (sif (PW.pt (wor (tnot (tval (visi (by rfl) C.m_isinstance bl_isinstance (by rfl) C.m_tuple bl_tuple (vv 2)))) (wor1 (tnot (tval (vcb (b_all rfl) (by rfl) C.m_all bl_all (acons (vlc rfl nd (it (vv 2)) (blkOk_by (own := [("pair", 3)]) (by kernel_rfl)) rfl (fun _ _ _ _ _ => (tn 3 nd)) (fun _ _ _ _ _ => pts0) (fun _ _ _ _ _ => (wcal (ok_is_pair C) hr (by decide) (by rfl) (acons (vv 0) (acons (vv 1) (acons (vv 3) anil)))))) anil))))))) (sone (sret vb)) snil)
    (scons (sif (tnot (tval (vcb (b_all rfl) (by rfl) C.m_all bl_all (acons (vlc rfl nd (iz (by rfl) C.m_zip (acons (vv 2) (acons (vsl (vv 2) (os vi) on) anil))) (blkOk_by (own := [("first", 6), ("second", 7)]) (by kernel_rfl)) rfl (fun _ _ _ _ _ => (tt rfl (tsc (tn 6 nd) (tsc (tn 7 nd) tsn)))) (fun _ _ _ _ _ => pts0) (fun _ _ _ _ _ => (vcmp (o_lt hr) (vv 6) (vv 7)))) anil)))) (sone (sret vb)) snil)
    (scons (sset 4 nd (vdc hr C.gp rfl nd (it (vv 2)) (blkOk_by (own := [("pair", 3)]) (by kernel_rfl)) rfl (fun _ _ _ _ _ => (tn 3 nd)) (fun _ _ _ _ _ => (vv 3)) (fun _ _ _ _ _ => vb)))
    (scons (sif (tcmp (o_notind hr C.gp) (vtup (acons (vtup (acons vi anil)) (acons (vtup (acons vi anil)) anil))) (vv 4)) (sone (sret vb)) snil)
    (scons (sfor PassesOwn.never rfl (it (vv 2)) (tn 3 nd) (scons (sset 5 nd (wcal (ok_pairs_behind C) hr (by decide) (by rfl) (acons (vv 0) (acons (vv 1) (acons (vv 3) anil)))))
    (sone (sif (PW.pt (wor (tcmp o_is (vv 5) vn) (wor1 (tnot (tval (vcb (b_all rfl) (by rfl) C.m_all bl_all (acons (vlc rfl nd (il (vv 5)) (blkOk_by (own := [("further", 8)]) (by kernel_rfl)) rfl (fun _ _ _ _ _ => (tn 8 nd)) (fun _ _ _ _ _ => pts0) (fun _ _ _ _ _ => (vcmp (o_ind hr C.gp) (vv 8) (vv 4)))) anil))))))) (sone (sret vb)) snil))))
    (sone (sret vb)))))))
theorem ok_pairing_holds (C : Cm P w K mg base G) : OkP P w K mg base G "pairing_holds" ["one", "other", "value"] 5 F_pairing_holds := by
  obtain ⟨fd, Fu⟩ := C.says.def_ 41 (d := d_pairing_holds) rfl
  exact ⟨_, fd, C.g_pairing_holds, Fu.kp, Fu.bindsN fun _ _ _ _ _ _ us hl => match us, hl with | [_, _, _], _ => rfl, fn_p (st := s_pairing_holds) (N := N_pairing_holds) Fu sc_pairing_holds (b_pairing_holds C)⟩
end
end DL
end
section
set_option Elab.async false
set_option linter.all false
set_option maxRecDepth 100000
set_option maxHeartbeats 4000000
set_option autoImplicit false
/-! Each def computes it. Printed by gen.py. -/
namespace DL
open PySem PySem.Spec
open PyProof.Rows hiding St
open L2

section
variable {P : Program} {w : World} {K : PySem.W.Frag} {mg : Str → Option Value} {base : Heap} {G : Gp}
theorem ok_law_spring (C : Cm P w K mg base G) : OkF P w K mg base G "_law_spring" ["_law_script"] 1 F_law_spring := by
  obtain ⟨fd, Fu⟩ := C.says.def_ 42 (d := d_law_spring) rfl
  refine ⟨_, fd, C.g_law_spring, Fu.kp, Fu.bindsN fun _ _ _ _ _ _ us hl => match us, hl with | [_], _ => rfl, ?_⟩
  refine fn_f (st := s_law_spring) (N := N_law_spring) Fu sc_law_spring fun cdv A outer s H E hr => ?_
  have nd := sc_law_spring.nd
  exact pss_cons (stg (vtup (acons vi (acons vi anil))) (tt rfl (tsc (tn 1 nd) (tsc (tn 2 nd) tsn))))
    (pss_cons (sfor PassesOwn.never rfl (il (vslq C.gK (vv 0) on (os vi))) (tn 3 nd) (scons (sset 4 nd (vop o_add (vop o_add (vop o_mul vi (vcb b_abs (by rfl) C.m_abs bl_abs (acons (vv 3) anil))) (vct b_int (by rfl) C.m_int bl_int (acons (vcmp (o_lt hr) (vv 3) vi) anil))) vi))
    (scons (sset 2 nd (vop o_mod (vct b_int (by rfl) C.m_int bl_int (acons (vop o_add (vop o_mul (vv 2) vi) (vv 4)) anil)) vi))
    (sone (sif (tcmp o_ge (vcb b_abs (by rfl) C.m_abs bl_abs (acons (vv 3) anil)) (vop o_pow vi vi)) (sone (sset 1 nd (vop o_add (vop o_mul (vv 1) vi) (vcb b_abs (by rfl) C.m_abs bl_abs (acons (vv 3) anil))))) snil)))))
    (pss_one (ps_ret (flst (acons (vv 1) (acons (vv 2) (acons vi anil)))))))
theorem b_law_dip (C : Cm P w K mg base G) {f : Addr} : Body G P w K mg base N_law_dip "_law_dip" s_law_dip f 0 [0] [0] S_law_dip := fun cdv A outer s H E hr =>
  have nd := sc_law_dip.nd
  (scons (sif (tcmp o_gt (vixo 0 vi) vi) (scons (sset 2 nd (vop o_mod (vct b_int (by rfl) C.m_int bl_int (acons (vixo 0 vi) anil)) (vv 1)))
    (scons (stg (vop o_div (vixo 0 vi) (vv 1)) (tsub 0 vi))
    (sone (sret (vv 2))))) snil)
    (scons (stg (vop o_add (vixo 0 vi) vi) (tsub 0 vi))
    (scons (sset 3 nd (vop o_add (vop o_mul vi (vixo 0 vi)) vi))
    (scons (stg (vop o_mod (vct b_int (by rfl) C.m_int bl_int (acons (vop o_add (vop o_mul (vixo 0 vi) vi) (vv 3)) anil)) vi) (tsub 0 vi))
    (sone (sret (vop o_mod (vct b_int (by rfl) C.m_int bl_int (acons (vop o_div (vop o_mod (vct b_int (by rfl) C.m_int bl_int (acons (vop o_mul (vixo 0 vi) (vixo 0 vi)) anil)) vi) vi) anil)) (vv 1))))))))
theorem ok_law_dip (C : Cm P w K mg base G) : OkS P w K mg base G "_law_dip" ["_law_spring_here", "_law_many"] 1 F_law_dip := by
  obtain ⟨fd, Fu⟩ := C.says.def_ 43 (d := d_law_dip) rfl
  exact ⟨_, fd, C.g_law_dip, Fu.kp, Fu.bindsN fun _ _ _ _ _ _ us hl => match us, hl with | [_, _], _ => rfl, fn_s (st := s_law_dip) (N := N_law_dip) Fu sc_law_dip (b_law_dip C)⟩
theorem b_law_pick (C : Cm P w K mg base G) {f : Addr} : Body G P w K mg base N_law_pick "_law_pick" s_law_pick f 1 [0] [0] S_law_pick := fun cdv A outer s H E hr =>
  have nd := sc_law_pick.nd
  (sone (sret (vix (vv 1) (wcs 0 (ok_law_dip C) hr (by decide) (by rfl) (acons (vcb b_len (by rfl) C.m_len bl_len (acons (vv 1) anil)) anil)))))
theorem ok_law_pick (C : Cm P w K mg base G) : OkS P w K mg base G "_law_pick" ["_law_spring_here", "_law_some"] 2 F_law_pick := by
  obtain ⟨fd, Fu⟩ := C.says.def_ 44 (d := d_law_pick) rfl
  exact ⟨_, fd, C.g_law_pick, Fu.kp, Fu.bindsN fun _ _ _ _ _ _ us hl => match us, hl with | [_, _], _ => rfl, fn_s (st := s_law_pick) (N := N_law_pick) Fu sc_law_pick (b_law_pick C)⟩
theorem b_law_range (C : Cm P w K mg base G) {f : Addr} : Body G P w K mg base N_law_range "_law_range" s_law_range f 1 [0] [0] S_law_range := fun cdv A outer s H E hr =>
  have nd := sc_law_range.nd
  (scons (sset 1 nd (wcs 0 (ok_law_dip C) hr (by decide) (by rfl) (acons vi anil)))
    (scons (sset 2 nd (vif (tcmp (o_lt hr) (vv 1) vi) (vop o_sub (wcs 0 (ok_law_dip C) hr (by decide) (by rfl) (acons vi anil)) vi) (vop o_add vi (wcs 0 (ok_law_dip C) hr (by decide) (by rfl) (acons vi anil)))))
    (scons (sif (tcmp (o_lt hr) (vv 1) vi) (sone (sret (vix (vlst (acons (vtup (acons vn (acons (vv 2) anil))) (acons (vtup (acons (vv 2) (acons vn anil))) (acons (vtup (acons vn (acons vn anil))) anil)))) (vv 1)))) snil)
    (sone (sret (vtup (acons (vv 2) (acons (vop o_add (vv 2) (wcs 0 (ok_law_dip C) hr (by decide) (by rfl) (acons (vop o_sub vi (vv 2)) anil))) anil))))))))
theorem ok_law_range (C : Cm P w K mg base G) : OkS P w K mg base G "_law_range" ["_law_spring_here"] 2 F_law_range := by
  obtain ⟨fd, Fu⟩ := C.says.def_ 45 (d := d_law_range) rfl
  exact ⟨_, fd, C.g_law_range, Fu.kp, Fu.bindsN fun _ _ _ _ _ _ us hl => match us, hl with | [_], _ => rfl, fn_s (st := s_law_range) (N := N_law_range) Fu sc_law_range (b_law_range C)⟩
theorem b_law_row (C : Cm P w K mg base G) {f : Addr} : Body G P w K mg base N_law_row "_law_row" s_law_row f 2 [0] [0] S_law_row := fun cdv A outer s H E hr =>
  have nd := sc_law_row.nd
  (scons (spar 2 3 rfl nd (acons (wcs 0 (ok_law_range C) hr (by decide) (by rfl) anil) (acons vn anil)))
    (scons (sif (tcmp (o_eq hr) (wcs 0 (ok_law_dip C) hr (by decide) (by rfl) (acons vi anil)) vi) (sone (sset 3 nd (wcs 0 (ok_law_pick C) hr (by decide) (by rfl) (acons (vlst (acons (vtup (acons vi (acons vi anil))) (acons (vtup (acons vi (acons vi anil))) (acons (vtup (acons vi (acons vi anil))) (acons (vtup (acons (vneg vi) (acons vi anil))) (acons (wcs 0 (ok_law_range C) hr (by decide) (by rfl) anil) anil)))))) anil)))) snil)
    (scons (sset 4 nd (wcs 0 (ok_law_pick C) hr (by decide) (by rfl) (acons (vlst (acons vs (acons vs (acons vs (acons vs (acons vs (acons vs anil))))))) anil)))
    (scons (sif (PW.pt (wand (tcmp (o_eq hr) (vv 4) vs) (wand1 (tcmp (o_in hr) vn (vv 2))))) (sone (sset 4 nd vs)) snil)
    (sone (sret (vtup (acons (vv 2) (acons (vv 3) (acons (vv 4) (acons (wcs 0 (ok_law_dip C) hr (by decide) (by rfl) (acons (vv 1) anil)) anil)))))))))))
theorem ok_law_row (C : Cm P w K mg base G) : OkS P w K mg base G "_law_row" ["_law_spring_here", "_law_many"] 3 F_law_row := by
  obtain ⟨fd, Fu⟩ := C.says.def_ 46 (d := d_law_row) rfl
  exact ⟨_, fd, C.g_law_row, Fu.kp, Fu.bindsN fun _ _ _ _ _ _ us hl => match us, hl with | [_, _], _ => rfl, fn_s (st := s_law_row) (N := N_law_row) Fu sc_law_row (b_law_row C)⟩
theorem b_law_window (C : Cm P w K mg base G) {f : Addr} : Body G P w K mg base N_law_window "_law_window" s_law_window f 0 [] [] S_law_window := fun cdv A outer s H E hr =>
  have nd := sc_law_window.nd
  (sone (sret (vtup (acons (vtup (acons (vtup (acons (vtup (acons vi (acons (vv 0) anil))) (acons vn (acons vs (acons vi anil))))) anil)) anil))))
theorem ok_law_window (C : Cm P w K mg base G) : OkP P w K mg base G "_law_window" ["_law_size"] 1 F_law_window := by
  obtain ⟨fd, Fu⟩ := C.says.def_ 47 (d := d_law_window) rfl
  exact ⟨_, fd, C.g_law_window, Fu.kp, Fu.bindsN fun _ _ _ _ _ _ us hl => match us, hl with | [_], _ => rfl, fn_p (st := s_law_window) (N := N_law_window) Fu sc_law_window (b_law_window C)⟩
theorem b_law_paired (C : Cm P w K mg base G) {f : Addr} : Body G P w K mg base N_law_paired "_law_paired" s_law_paired f 0 [] [] S_law_paired := fun cdv A outer s H E hr =>
  have nd := sc_law_paired.nd
  (scons (sparF 3 4 rfl nd (vtup (acons (vop o_add (vv 0) vi) (acons (vv 1) anil))) (flst anil) (fun _ _ _ => dLst_lst))
    (scons (sfor PassesOwn.never rfl (ir (by rfl) C.m_range (vv 2)) (tn 5 nd) (scons (ssetF 6 nd (flst (acons (vtup (acons (vtup (acons vi (acons (vv 0) anil))) (acons vn (acons vs (acons vi anil))))) anil)) (fun _ _ _ => dLst_lst))
    (scons (sif (tcmp o_gt (vv 5) vi) (sone (sapp 6 (vif (tcmp (o_eq hr) (vv 5) (vop o_sub (vv 2) vi)) (vtup (acons (vv 3) (acons (vtup (acons vi (acons vi anil))) (acons vs (acons vi anil))))) (vtup (acons (vv 3) (acons (vtup (acons vi (acons vi anil))) (acons vs (acons (vop o_add (vv 5) vi) anil)))))))) snil)
    (sone (spre (o1 := [4]) (sapp 4 (vct b_tuple (by rfl) C.m_tuple bl_tuple (acons (vop o_add (vv 6) (vlst (acons (vtup (acons (vv 3) (acons vn (acons vs (acons vi anil))))) anil))) anil))))))))
    (sone (spre (o1 := []) (sret (vct b_tuple (by rfl) C.m_tuple bl_tuple (acons (vv 4) anil)))))))
theorem ok_law_paired (C : Cm P w K mg base G) : OkP P w K mg base G "_law_paired" ["_law_size", "_law_wide", "_law_times"] 1 F_law_paired := by
  obtain ⟨fd, Fu⟩ := C.says.def_ 48 (d := d_law_paired) rfl
  exact ⟨_, fd, C.g_law_paired, Fu.kp, Fu.bindsN fun _ _ _ _ _ _ us hl => match us, hl with | [_, _, _], _ => rfl, fn_p (st := s_law_paired) (N := N_law_paired) Fu sc_law_paired (b_law_paired C)⟩
theorem b_law_receiver (C : Cm P w K mg base G) {f : Addr} : Body G P w K mg base N_law_receiver "_law_receiver" s_law_receiver f 3 [0] [0] S_law_receiver := fun cdv A outer s H E hr =>
  have nd := sc_law_receiver.nd
  (scons (sset 3 nd (wcs 0 (ok_law_dip C) hr (by decide) (by rfl) (acons vi anil)))
    (scons (sif (tcmp (o_eq hr) (vv 3) vi) (sone (sret (wcal (ok_law_window C) hr (by decide) (by rfl) (acons (vop o_add vi (wcs 0 (ok_law_dip C) hr (by decide) (by rfl) (acons vi anil))) anil)))) snil)
    (scons (sif (PW.pt (wand (tcmp (o_eq hr) (vv 3) vi) (wand (tcmp o_gt (vv 1) vi) (wand1 (tcmp o_gt (vv 2) vi))))) (scons (sset 4 nd (vop o_add vi (wcs 0 (ok_law_dip C) hr (by decide) (by rfl) (acons vi anil))))
    (sone (sret (wcal (ok_law_paired C) hr (by decide) (by rfl) (acons (vv 4) (acons (vop o_add (vop o_add (vv 4) vi) (wcs 0 (ok_law_dip C) hr (by decide) (by rfl) (acons (vop o_sub vi (vv 4)) anil))) (acons (vop o_add vi (wcs 0 (ok_law_dip C) hr (by decide) (by rfl) (acons (vop o_sub (vv 1) vi) anil))) anil))))))) snil)
    (scons (sset 5 nd (vop o_add vi (wcs 0 (ok_law_dip C) hr (by decide) (by rfl) (acons (vv 1) anil))))
    (scons (ssetF 6 nd (flst anil) (fun _ _ _ => dLst_lst))
    (scons (sfor PassesOwn.never rfl (ir (by rfl) C.m_range (vv 5)) (tn 7 nd) (sone (sapp 6 (vct b_tuple (by rfl) C.m_tuple bl_tuple (acons (vlc rfl nd (ir (by rfl) C.m_range (wcs 0 (ok_law_dip C) hr (by decide) (by rfl) (acons (vop o_add (vv 2) vi) anil))) (blkOk_by (own := [("_law_k", 8)]) (by kernel_rfl)) rfl (fun _ _ _ _ _ => (tn 8 nd)) (fun _ _ _ _ _ => pts0) (fun _ _ _ _ _ => (wcs 0 (ok_law_row C) hr (by decide) (by rfl) (acons (vv 5) anil)))) anil)))))
    (sone (spre (o1 := [0]) (sret (vct b_tuple (by rfl) C.m_tuple bl_tuple (acons (vv 6) anil)))))))))))
theorem ok_law_receiver (C : Cm P w K mg base G) : OkS P w K mg base G "_law_receiver" ["_law_spring_here", "_law_states", "_law_rows"] 4 F_law_receiver := by
  obtain ⟨fd, Fu⟩ := C.says.def_ 49 (d := d_law_receiver) rfl
  exact ⟨_, fd, C.g_law_receiver, Fu.kp, Fu.bindsN fun _ _ _ _ _ _ us hl => match us, hl with | [_, _, _], _ => rfl, fn_s (st := s_law_receiver) (N := N_law_receiver) Fu sc_law_receiver (b_law_receiver C)⟩
theorem b_law_lies (C : Cm P w K mg base G) {f : Addr} : Body G P w K mg base N_law_lies "_law_lies" s_law_lies f 0 [] [] S_law_lies := fun cdv A outer s H E hr =>
  have nd := sc_law_lies.nd
  (sone (sret (vand (vor (vcmp o_is (vix (vv 1) vi) vn) (vone (vcmp o_ge (vv 0) (vix (vv 1) vi)))) (vone (vor (vcmp o_is (vix (vv 1) vi) vn) (vone (vcmp o_le (vv 0) (vix (vv 1) vi))))))))
theorem ok_law_lies (C : Cm P w K mg base G) : OkP P w K mg base G "_law_lies" ["_law_number", "_law_own"] 1 F_law_lies := by
  obtain ⟨fd, Fu⟩ := C.says.def_ 50 (d := d_law_lies) rfl
  exact ⟨_, fd, C.g_law_lies, Fu.kp, Fu.bindsN fun _ _ _ _ _ _ us hl => match us, hl with | [_, _], _ => rfl, fn_p (st := s_law_lies) (N := N_law_lies) Fu sc_law_lies (b_law_lies C)⟩
theorem b_law_counting (C : Cm P w K mg base G) {f : Addr} : Body G P w K mg base N_law_counting "_law_counting" s_law_counting f 1 [] [] S_law_counting := fun cdv A outer s H E hr =>
  have nd := sc_law_counting.nd
  (scons (sfor PassesOwn.never rfl (ir (by rfl) C.m_range (vcb b_len (by rfl) C.m_len bl_len (acons (vix (vv 0) (vix (vv 1) vi)) anil))) (tn 3 nd) (scons (stg (vsl (vix (vix (vv 0) (vix (vv 1) vi)) (vv 3)) on (os vi)) (tt rfl (tsc (tn 4 nd) (tsc (tn 5 nd) tsn))))
    (sone (sif (tval (wcal (ok_law_lies C) hr (by decide) (by rfl) (acons (vv 2) (acons (vv 4) anil)))) (sone (sif (PW.pt (wor (tcmp o_is (vv 5) vn) (wor1 (PW.pt (wand (tcmp o_gt (vcb b_len (by rfl) C.m_len bl_len (acons (vv 1) anil)) vi) (wand1 (tval (wcal (ok_law_lies C) hr (by decide) (by rfl) (acons (vop o_sub (vv 2) (vix (vv 1) vi)) (acons (vv 5) anil)))))))))) (sone (sret (vv 3))) snil)) snil))))
    (sone (sret vn)))
theorem ok_law_counting (C : Cm P w K mg base G) : OkP P w K mg base G "_law_counting" ["_law_receiver_here", "_law_rest_here", "_law_step_here"] 2 F_law_counting := by
  obtain ⟨fd, Fu⟩ := C.says.def_ 51 (d := d_law_counting) rfl
  exact ⟨_, fd, C.g_law_counting, Fu.kp, Fu.bindsN fun _ _ _ _ _ _ us hl => match us, hl with | [_, _, _], _ => rfl, fn_p (st := s_law_counting) (N := N_law_counting) Fu sc_law_counting (b_law_counting C)⟩
theorem b_law_step (C : Cm P w K mg base G) {f : Addr} : Body G P w K mg base N_law_step "_law_step" s_law_step f 2 [] [] S_law_step := fun cdv A outer s H E hr =>
  have nd := sc_law_step.nd
  (scons (sset 3 nd (wcal (ok_law_counting C) hr (by decide) (by rfl) (acons (vv 0) (acons (vv 1) (acons (vv 2) anil)))))
    (scons (sif (tcmp o_is (vv 3) vn) (sone (sret (vtup (acons vb (acons (vv 1) anil))))) snil)
    (scons (stg (vsl (vix (vix (vv 0) (vix (vv 1) vi)) (vv 3)) (os vi) on) (tt rfl (tsc (tn 4 nd) (tsc (tn 5 nd) tsn))))
    (scons (sif (tcmp (o_eq hr) (vv 4) vs) (sone (sret (vtup (acons vb (acons (vtup (acons (vv 5) (acons (vv 2) anil))) anil))))) snil)
    (sone (sret (vtup (acons (vcmp (o_eq hr) (vv 4) vs) (acons (vop o_add (vtup (acons (vv 5) anil)) (vif (tcmp (o_eq hr) (vv 4) vs) (vsl (vv 1) (os vi) on) (vtup anil))) anil)))))))))
theorem ok_law_step (C : Cm P w K mg base G) : OkP P w K mg base G "_law_step" ["_law_receiver_here", "_law_rest_here", "_law_step_here"] 3 F_law_step := by
  obtain ⟨fd, Fu⟩ := C.says.def_ 52 (d := d_law_step) rfl
  exact ⟨_, fd, C.g_law_step, Fu.kp, Fu.bindsN fun _ _ _ _ _ _ us hl => match us, hl with | [_, _, _], _ => rfl, fn_p (st := s_law_step) (N := N_law_step) Fu sc_law_step (b_law_step C)⟩
theorem b_law_rest (C : Cm P w K mg base G) {f : Addr} : Body G P w K mg base N_law_rest "_law_rest" s_law_rest f 0 [] [] S_law_rest := fun cdv A outer s H E hr =>
  have nd := sc_law_rest.nd
  (sone (sret (vif (tcmp o_is (vix (vv 0) vi) vn) (vtup (acons (vix (vv 0) vi) anil)) (vtup (acons (vix (vv 0) vi) (acons (vop o_sub (vix (vv 0) vi) (vix (vv 0) vi)) anil))))))
theorem ok_law_rest (C : Cm P w K mg base G) : OkP P w K mg base G "_law_rest" ["_law_stand"] 1 F_law_rest := by
  obtain ⟨fd, Fu⟩ := C.says.def_ 53 (d := d_law_rest) rfl
  exact ⟨_, fd, C.g_law_rest, Fu.kp, Fu.bindsN fun _ _ _ _ _ _ us hl => match us, hl with | [_], _ => rfl, fn_p (st := s_law_rest) (N := N_law_rest) Fu sc_law_rest (b_law_rest C)⟩
theorem b_law_heard (C : Cm P w K mg base G) {f : Addr} : Body G P w K mg base N_law_heard "_law_heard" s_law_heard f 3 [] [] S_law_heard := fun cdv A outer s H E hr =>
  have nd := sc_law_heard.nd
  (scons (stg (wcal (ok_law_step C) hr (by decide) (by rfl) (acons (vv 0) (acons (wcal (ok_law_rest C) hr (by decide) (by rfl) (acons (vv 1) anil)) (acons (vop o_sub (vv 2) (vix (vv 1) vi)) anil)))) (tt rfl (tsc (tn 3 nd) (tsc (tn 4 nd) tsn))))
    (scons (sset 5 nd (vif (tval (vv 3)) (vv 2) (vix (vv 1) vi)))
    (sone (sret (vtup (acons (vv 3) (acons (vtup (acons (vix (vv 4) vi) (acons (vv 5) (acons (vif (tcmp (o_eq hr) (vcb b_len (by rfl) C.m_len bl_len (acons (vv 4) anil)) vi) vn (vop o_add (vv 5) (vix (vv 4) vi))) anil)))) anil)))))))
theorem ok_law_heard (C : Cm P w K mg base G) : OkP P w K mg base G "_law_heard" ["_law_receiver_here", "_law_stand", "_law_number"] 4 F_law_heard := by
  obtain ⟨fd, Fu⟩ := C.says.def_ 54 (d := d_law_heard) rfl
  exact ⟨_, fd, C.g_law_heard, Fu.kp, Fu.bindsN fun _ _ _ _ _ _ us hl => match us, hl with | [_, _, _], _ => rfl, fn_p (st := s_law_heard) (N := N_law_heard) Fu sc_law_heard (b_law_heard C)⟩
theorem b_law_numbers (C : Cm P w K mg base G) {f : Addr} : Body G P w K mg base N_law_numbers "_law_numbers" s_law_numbers f 4 [0] [0] S_law_numbers := fun cdv A outer s H E hr =>
  have nd := sc_law_numbers.nd
  (scons (sparF 4 5 rfl nd (vtup (acons vi (acons (vv 2) (acons vn anil)))) (flst anil) (fun _ _ _ => dLst_lst))
    (scons (sfor PassesOwn.never rfl (ir (by rfl) C.m_range (wcs 0 (ok_law_dip C) hr (by decide) (by rfl) (acons (vop o_add (vv 3) vi) anil))) (tn 6 nd) (scons (sset 7 nd (wcs 0 (ok_law_dip C) hr (by decide) (by rfl) (acons vi anil)))
    (scons (sif (tcmp (o_eq hr) (vv 7) vi) (sone (sset 8 nd (vop o_add (vix (vv 4) vi) (wcs 0 (ok_law_pick C) hr (by decide) (by rfl) (acons (vlst (acons (vneg (vop o_pow vi vi)) (acons (vneg vi) (acons (vneg vi) (acons (vneg vi) (acons vi (acons vi (acons vi (acons (vop o_pow vi vi) anil))))))))) anil))))) (sone (sif (PW.pt (wand (tcmp (o_eq hr) (vv 7) vi) (wand1 (tnno hr 5)))) (sone (sset 8 nd (vixo 5 (vneg vi)))) (sone (sif (PW.pt (wand (tcmp (o_lt hr) (vv 7) vi) (wand1 (tcmp o_isnot (vix (vv 4) vi) vn)))) (sone (sset 8 nd (vop o_sub (vop o_add (vix (vv 4) vi) (wcs 0 (ok_law_dip C) hr (by decide) (by rfl) (acons vi anil))) vi))) (sone (sset 8 nd (vop o_add (vix (vv 4) vi) (vif (tcmp (o_lt hr) (vv 7) vi) (vop o_sub (wcs 0 (ok_law_dip C) hr (by decide) (by rfl) (acons vi anil)) vi) (vop o_add vi (wcs 0 (ok_law_dip C) hr (by decide) (by rfl) (acons vi anil))))))))))))
    (scons (sapp 5 (vv 8))
    (sone (sset 4 nd (vix (wcal (ok_law_heard C) hr (by decide) (by rfl) (acons (vv 1) (acons (vv 4) (acons (vv 8) anil)))) vi)))))))
    (sone (spre (o1 := [0]) (sret (vct b_tuple (by rfl) C.m_tuple bl_tuple (acons (vv 5) anil)))))))
theorem ok_law_numbers (C : Cm P w K mg base G) : OkS P w K mg base G "_law_numbers" ["_law_spring_here", "_law_receiver_here", "_law_origin", "_law_many"] 5 F_law_numbers := by
  obtain ⟨fd, Fu⟩ := C.says.def_ 55 (d := d_law_numbers) rfl
  exact ⟨_, fd, C.g_law_numbers, Fu.kp, Fu.bindsN fun _ _ _ _ _ _ us hl => match us, hl with | [_, _, _, _], _ => rfl, fn_s (st := s_law_numbers) (N := N_law_numbers) Fu sc_law_numbers (b_law_numbers C)⟩
end
end DL
end
section
set_option Elab.async false
set_option linter.all false
set_option maxRecDepth 100000
set_option maxHeartbeats 4000000
set_option autoImplicit false
/-! Each def computes it. Printed by gen.py. -/
namespace DL
open PySem PySem.Spec
open PyProof.Rows hiding St
open L2

section
variable {P : Program} {w : World} {K : PySem.W.Frag} {mg : Str → Option Value} {base : Heap} {G : Gp}
theorem b_law_swapped (C : Cm P w K mg base G) {f : Addr} : Body G P w K mg base N_law_swapped "_law_swapped" s_law_swapped f 0 [] [] S_law_swapped := fun cdv A outer s H E hr =>
  have nd := sc_law_swapped.nd
  (scons (ssetF 3 nd (flr rfl (by rfl) C.m_list (rr1 (by rfl) C.m_range (vcb b_len (by rfl) C.m_len bl_len (acons (vv 0) anil)))) (fun _ _ _ => dLr_lst))
    (scons (stg (vtup (acons (vv 2) (acons (vv 1) anil))) (tt rfl (tsc (tsub 3 (vv 1)) (tsc (tsub 3 (vv 2)) tsn))))
    (scons (ssetF 4 nd (flst anil) (fun _ _ _ => dLst_lst))
    (scons (spre (o1 := [4]) (sfor PassesOwn.never rfl (il (vv 3)) (tn 5 nd) (sone (sapp 4 (vct b_tuple (by rfl) C.m_tuple bl_tuple (acons (vlc rfl nd (it (vix (vv 0) (vv 5))) (blkOk_by (own := [("_law_row_here", 6)]) (by kernel_rfl)) rfl (fun _ _ _ _ _ => (tn 6 nd)) (fun _ _ _ _ _ => pts0) (fun _ _ _ _ _ => (vop o_add (vsl (vv 6) on (os vi)) (vtup (acons (vix (vv 3) (vix (vv 6) vi)) anil))))) anil))))))
    (sone (spre (o1 := []) (sret (vct b_tuple (by rfl) C.m_tuple bl_tuple (acons (vv 4) anil)))))))))
theorem ok_law_swapped (C : Cm P w K mg base G) : OkP P w K mg base G "_law_swapped" ["_law_receiver_here", "_law_one", "_law_other"] 1 F_law_swapped := by
  obtain ⟨fd, Fu⟩ := C.says.def_ 56 (d := d_law_swapped) rfl
  exact ⟨_, fd, C.g_law_swapped, Fu.kp, Fu.bindsN fun _ _ _ _ _ _ us hl => match us, hl with | [_, _, _], _ => rfl, fn_p (st := s_law_swapped) (N := N_law_swapped) Fu sc_law_swapped (b_law_swapped C)⟩
theorem b_law_led (C : Cm P w K mg base G) {f : Addr} : Body G P w K mg base N_law_led "_law_led" s_law_led f 0 [] [] S_law_led := fun cdv A outer s H E hr =>
  have nd := sc_law_led.nd
  (sone (sret (vop o_add (vsl (vv 0) on (os vi)) (vtup (acons (vv 1) anil)))))
theorem ok_law_led (C : Cm P w K mg base G) : OkP P w K mg base G "_law_led" ["_law_row_here", "_law_behind"] 1 F_law_led := by
  obtain ⟨fd, Fu⟩ := C.says.def_ 57 (d := d_law_led) rfl
  exact ⟨_, fd, C.g_law_led, Fu.kp, Fu.bindsN fun _ _ _ _ _ _ us hl => match us, hl with | [_, _], _ => rfl, fn_p (st := s_law_led) (N := N_law_led) Fu sc_law_led (b_law_led C)⟩
theorem b_law_shaped (C : Cm P w K mg base G) {f : Addr} : Body G P w K mg base N_law_shaped "_law_shaped" s_law_shaped f 3 [0] [0] S_law_shaped := fun cdv A outer s H E hr =>
  have nd := sc_law_shaped.nd
  (scons (stg (vtup (acons (wcs 0 (ok_law_dip C) hr (by decide) (by rfl) (acons vi anil)) (acons (wcs 0 (ok_law_dip C) hr (by decide) (by rfl) (acons (vcb b_len (by rfl) C.m_len bl_len (acons (vv 1) anil)) anil)) anil))) (tt rfl (tsc (tn 2 nd) (tsc (tn 3 nd) tsn))))
    (scons (sset 4 nd (vix (vv 1) (vv 3)))
    (scons (sif (PW.pt (wand (tcmp (o_eq hr) (vv 2) vi) (wand1 (tchain (o_lt hr) (o_lt hr) vi (vcb b_len (by rfl) C.m_len bl_len (acons (vv 4) anil)) vi)))) (scons (sset 5 nd (vop o_add (vsl (vix (vv 4) (wcs 0 (ok_law_dip C) hr (by decide) (by rfl) (acons (vcb b_len (by rfl) C.m_len bl_len (acons (vv 4) anil)) anil))) on (os vi)) (vsl (wcs 0 (ok_law_row C) hr (by decide) (by rfl) (acons (vcb b_len (by rfl) C.m_len bl_len (acons (vv 1) anil)) anil)) (os vi) on)))
    (scons (sset 5 nd (vif (PW.pt (wand (tcmp (o_in hr) vn (vix (vv 5) vi)) (wand1 (tcmp (o_eq hr) (vix (vv 5) vi) vs)))) (vop o_add (vop o_add (vsl (vv 5) on (os vi)) (vtup (acons vs anil))) (vsl (vv 5) (os vi) on)) (vv 5)))
    (sone (sret (vop o_add (vop o_add (vsl (vv 1) on (os (vv 3))) (vtup (acons (vop o_add (vv 4) (vtup (acons (vv 5) anil))) anil))) (vsl (vv 1) (os (vop o_add (vv 3) vi)) on)))))) snil)
    (scons (sif (PW.pt (wand (tcmp (o_eq hr) (vv 2) vi) (wand1 (tcmp (o_lt hr) (vcb b_len (by rfl) C.m_len bl_len (acons (vv 4) anil)) vi)))) (sone (sret (vop o_add (vop o_add (vsl (vv 1) on (os (vv 3))) (vtup (acons (vop o_add (vv 4) (vtup (acons (vtup (acons (vtup (acons vn (acons vn anil))) (acons vn (acons vs (acons (vv 3) anil))))) anil))) anil))) (vsl (vv 1) (os (vop o_add (vv 3) vi)) on)))) snil)
    (scons (sif (PW.pt (wand (tcmp (o_eq hr) (vv 2) vi) (wand1 (tcmp o_gt (vcb b_len (by rfl) C.m_len bl_len (acons (vv 1) anil)) vi)))) (scons (sset 6 nd (vop o_add vi (wcs 0 (ok_law_dip C) hr (by decide) (by rfl) (acons (vop o_sub (vcb b_len (by rfl) C.m_len bl_len (acons (vv 1) anil)) vi) anil))))
    (sone (sret (wcal (ok_law_swapped C) hr (by decide) (by rfl) (acons (vv 1) (acons (vv 6) (acons (vop o_add vi (wcs 0 (ok_law_dip C) hr (by decide) (by rfl) (acons (vop o_sub (vcb b_len (by rfl) C.m_len bl_len (acons (vv 1) anil)) vi) anil))) anil))))))) snil)
    (scons (sif (PW.pt (wand (tcmp (o_eq hr) (vv 2) vi) (wand1 (tcmp (o_lt hr) (vcb b_len (by rfl) C.m_len bl_len (acons (vv 1) anil)) vi)))) (scons (ssetF 7 nd (flst anil) (fun _ _ _ => dLst_lst))
    (scons (sfor PassesOwn.never rfl (it (vop o_add (vv 1) (vtup (acons (vv 4) anil)))) (tn 4 nd) (scons (sset 8 nd (vlc rfl nd (it (vv 4)) (blkOk_by (own := [("_law_row_here", 10)]) (by kernel_rfl)) rfl (fun _ _ _ _ _ => (tn 10 nd)) (fun _ _ _ _ _ => pts0) (fun _ _ _ _ _ => (vand (vcmp (o_eq hr) (wcs 0 (ok_law_dip C) hr (by decide) (by rfl) (acons vi anil)) vi) (vone (vcmp (o_eq hr) (vix (vv 10) vi) (vv 3)))))))
    (scons (sset 9 nd (vlc rfl nd (ir (by rfl) C.m_range (vcb b_len (by rfl) C.m_len bl_len (acons (vv 4) anil))) (blkOk_by (own := [("_law_k", 11)]) (by kernel_rfl)) rfl (fun _ _ _ _ _ => (tn 11 nd)) (fun _ _ _ _ _ => pts0) (fun _ _ _ _ _ => (vif (tval (vix (vv 8) (vv 11))) (vcb b_len (by rfl) C.m_len bl_len (acons (vv 1) anil)) (vix (vix (vv 4) (vv 11)) vi)))))
    (sone (sapp 7 (vct b_tuple (by rfl) C.m_tuple bl_tuple (acons (vlc rfl nd (ir (by rfl) C.m_range (vcb b_len (by rfl) C.m_len bl_len (acons (vv 4) anil))) (blkOk_by (own := [("_law_k", 11)]) (by kernel_rfl)) rfl (fun _ _ _ _ _ => (tn 11 nd)) (fun _ _ _ _ _ => pts0) (fun _ _ _ _ _ => (wcal (ok_law_led C) hr (by decide) (by rfl) (acons (vix (vv 4) (vv 11)) (acons (vix (vv 9) (vv 11)) anil))))) anil)))))))
    (sone (spre (o1 := [0]) (sret (vct b_tuple (by rfl) C.m_tuple bl_tuple (acons (vv 7) anil))))))) snil)
    (sone (sret (vv 1)))))))))
theorem ok_law_shaped (C : Cm P w K mg base G) : OkS P w K mg base G "_law_shaped" ["_law_spring_here", "_law_receiver_here"] 4 F_law_shaped := by
  obtain ⟨fd, Fu⟩ := C.says.def_ 58 (d := d_law_shaped) rfl
  exact ⟨_, fd, C.g_law_shaped, Fu.kp, Fu.bindsN fun _ _ _ _ _ _ us hl => match us, hl with | [_, _], _ => rfl, fn_s (st := s_law_shaped) (N := N_law_shaped) Fu sc_law_shaped (b_law_shaped C)⟩
theorem b_law_varied (C : Cm P w K mg base G) {f : Addr} : Body G P w K mg base N_law_varied "_law_varied" s_law_varied f 3 [0] [0] S_law_varied := fun cdv A outer s H E hr =>
  have nd := sc_law_varied.nd
  (scons (sset 2 nd (wcs 0 (ok_law_dip C) hr (by decide) (by rfl) (acons (vcb b_len (by rfl) C.m_len bl_len (acons (vv 1) anil)) anil)))
    (scons (spar 3 4 rfl nd (acons (vix (vv 1) (vv 2)) (acons (wcs 0 (ok_law_dip C) hr (by decide) (by rfl) (acons vi anil)) anil)))
    (scons (sset 5 nd (wcs 0 (ok_law_dip C) hr (by decide) (by rfl) (acons (vop o_add (vcb b_len (by rfl) C.m_len bl_len (acons (vv 3) anil)) vi) anil)))
    (scons (sif (PW.pt (wand (tcmp (o_eq hr) (vv 4) vi) (wand1 (tcmp (o_ne hr) (vv 3) (vtup anil))))) (scons (sset 5 nd (vcb (b_min rfl) (by rfl) C.m_min bl_min (acons (vv 5) (acons (vop o_sub (vcb b_len (by rfl) C.m_len bl_len (acons (vv 3) anil)) vi) anil))))
    (sone (sset 3 nd (vop o_add (vsl (vv 3) on (os (vv 5))) (vsl (vv 3) (os (vop o_add (vv 5) vi)) on))))) (sone (sif (PW.pt (wand (tcmp (o_eq hr) (vv 4) vi) (wand1 (tcmp (o_ne hr) (vv 3) (vtup anil))))) (scons (sset 5 nd (vcb (b_min rfl) (by rfl) C.m_min bl_min (acons (vv 5) (acons (vop o_sub (vcb b_len (by rfl) C.m_len bl_len (acons (vv 3) anil)) vi) anil))))
    (sone (sset 3 nd (vop o_add (vop o_add (vsl (vv 3) on (os (vv 5))) (vtup (acons (wcs 0 (ok_law_row C) hr (by decide) (by rfl) (acons (vcb b_len (by rfl) C.m_len bl_len (acons (vv 1) anil)) anil)) anil))) (vsl (vv 3) (os (vop o_add (vv 5) vi)) on))))) (sone (sif (tcmp (o_lt hr) (vcb b_len (by rfl) C.m_len bl_len (acons (vv 3) anil)) vi) (sone (sset 3 nd (vop o_add (vop o_add (vsl (vv 3) on (os (vv 5))) (vtup (acons (wcs 0 (ok_law_row C) hr (by decide) (by rfl) (acons (vcb b_len (by rfl) C.m_len bl_len (acons (vv 1) anil)) anil)) anil))) (vsl (vv 3) (os (vv 5)) on)))) snil)))))
    (sone (sret (vop o_add (vop o_add (vsl (vv 1) on (os (vv 2))) (vtup (acons (vv 3) anil))) (vsl (vv 1) (os (vop o_add (vv 2) vi)) on))))))))
theorem ok_law_varied (C : Cm P w K mg base G) : OkS P w K mg base G "_law_varied" ["_law_spring_here", "_law_receiver_here"] 4 F_law_varied := by
  obtain ⟨fd, Fu⟩ := C.says.def_ 59 (d := d_law_varied) rfl
  exact ⟨_, fd, C.g_law_varied, Fu.kp, Fu.bindsN fun _ _ _ _ _ _ us hl => match us, hl with | [_, _], _ => rfl, fn_s (st := s_law_varied) (N := N_law_varied) Fu sc_law_varied (b_law_varied C)⟩
theorem b_law_rising (C : Cm P w K mg base G) {f : Addr} : Body G P w K mg base N_law_rising "_law_rising" s_law_rising f 2 [0] [0] S_law_rising := fun cdv A outer s H E hr =>
  have nd := sc_law_rising.nd
  (scons (sparF 2 3 rfl nd vi (flst anil) (fun _ _ _ => dLst_lst))
    (scons (sfor PassesOwn.never rfl (ir (by rfl) C.m_range (wcs 0 (ok_law_dip C) hr (by decide) (by rfl) (acons (vop o_add (vv 1) vi) anil))) (tn 4 nd) (scons (sset 2 nd (vop o_add (vop o_add (vv 2) vi) (wcs 0 (ok_law_pick C) hr (by decide) (by rfl) (acons (vlst (acons vi (acons vi (acons vi (acons vi (acons vi (acons (wcs 0 (ok_law_dip C) hr (by decide) (by rfl) (acons vi anil)) (acons vi (acons (vop o_pow vi vi) anil))))))))) anil))))
    (sone (sapp 3 (vv 2)))))
    (sone (spre (o1 := [0]) (sret (vct b_tuple (by rfl) C.m_tuple bl_tuple (acons (vv 3) anil)))))))
theorem ok_law_rising (C : Cm P w K mg base G) : OkS P w K mg base G "_law_rising" ["_law_spring_here", "_law_many"] 3 F_law_rising := by
  obtain ⟨fd, Fu⟩ := C.says.def_ 60 (d := d_law_rising) rfl
  exact ⟨_, fd, C.g_law_rising, Fu.kp, Fu.bindsN fun _ _ _ _ _ _ us hl => match us, hl with | [_, _], _ => rfl, fn_s (st := s_law_rising) (N := N_law_rising) Fu sc_law_rising (b_law_rising C)⟩
theorem b_law_two (C : Cm P w K mg base G) {f : Addr} : Body G P w K mg base N_law_two "_law_two" s_law_two f 4 [0] [0] S_law_two := fun cdv A outer s H E hr =>
  have nd := sc_law_two.nd
  (scons (spar 3 4 rfl nd (acons (wcs 0 (ok_law_receiver C) hr (by decide) (by rfl) (acons (vv 1) (acons (vv 2) anil))) (acons (wcs 0 (ok_law_dip C) hr (by decide) (by rfl) (acons vi anil)) anil)))
    (scons (sif (tcmp (o_eq hr) (vv 4) vi) (sone (sret (vlst (acons (vv 3) (acons (wcs 0 (ok_law_receiver C) hr (by decide) (by rfl) (acons (vv 1) (acons (vv 2) anil))) anil))))) snil)
    (scons (sif (tcmp (o_eq hr) (vv 4) vi) (sone (sret (vlst (acons (vv 3) (acons (wcs 0 (ok_law_shaped C) hr (by decide) (by rfl) (acons (vv 3) anil)) anil))))) snil)
    (scons (sset 5 nd (wcs 0 (ok_law_varied C) hr (by decide) (by rfl) (acons (vv 3) anil)))
    (sone (sret (vlst (acons (vv 3) (acons (vif (tcmp (o_lt hr) (vv 4) vi) (vv 5) (wcs 0 (ok_law_shaped C) hr (by decide) (by rfl) (acons (vv 5) anil))) anil)))))))))
theorem ok_law_two (C : Cm P w K mg base G) : OkS P w K mg base G "_law_two" ["_law_spring_here", "_law_states", "_law_rows"] 5 F_law_two := by
  obtain ⟨fd, Fu⟩ := C.says.def_ 61 (d := d_law_two) rfl
  exact ⟨_, fd, C.g_law_two, Fu.kp, Fu.bindsN fun _ _ _ _ _ _ us hl => match us, hl with | [_, _, _], _ => rfl, fn_s (st := s_law_two) (N := N_law_two) Fu sc_law_two (b_law_two C)⟩
theorem b_law_wider (C : Cm P w K mg base G) {f : Addr} : Body G P w K mg base N_law_wider "_law_wider" s_law_wider f 2 [0] [0] S_law_wider := fun cdv A outer s H E hr =>
  have nd := sc_law_wider.nd
  (scons (sset 2 nd (wcs 0 (ok_law_dip C) hr (by decide) (by rfl) (acons (vcb b_len (by rfl) C.m_len bl_len (acons (vv 1) anil)) anil)))
    (scons (sset 3 nd (vix (vv 1) (vv 2)))
    (scons (sif (tcmp o_gt (vcb b_len (by rfl) C.m_len bl_len (acons (vv 3) anil)) vi) (sone (sret (vv 1))) snil)
    (scons (sset 4 nd (vtup (acons (wcs 0 (ok_law_range C) hr (by decide) (by rfl) anil) (acons vn (acons vs (acons (wcs 0 (ok_law_dip C) hr (by decide) (by rfl) (acons (vcb b_len (by rfl) C.m_len bl_len (acons (vv 1) anil)) anil)) anil))))))
    (sone (sret (vop o_add (vop o_add (vsl (vv 1) on (os (vv 2))) (vtup (acons (vop o_add (vv 3) (vtup (acons (vv 4) anil))) anil))) (vsl (vv 1) (os (vop o_add (vv 2) vi)) on))))))))
theorem ok_law_wider (C : Cm P w K mg base G) : OkS P w K mg base G "_law_wider" ["_law_spring_here", "_law_receiver_here"] 3 F_law_wider := by
  obtain ⟨fd, Fu⟩ := C.says.def_ 62 (d := d_law_wider) rfl
  exact ⟨_, fd, C.g_law_wider, Fu.kp, Fu.bindsN fun _ _ _ _ _ _ us hl => match us, hl with | [_, _], _ => rfl, fn_s (st := s_law_wider) (N := N_law_wider) Fu sc_law_wider (b_law_wider C)⟩
theorem b_law_first_unlike (C : Cm P w K mg base G) {f : Addr} : Body G P w K mg base N_law_first_unlike "_law_first_unlike" s_law_first_unlike f 6 [] [] S_law_first_unlike := fun cdv A outer s H E hr =>
  have nd := sc_law_first_unlike.nd
  (scons (stg (vtup (acons (wcalD (ok_answers C) hr (by decide) (by rfl) (acons (vv 0) (acons (vv 2) anil))) (acons (wcalD (ok_answers C) hr (by decide) (by rfl) (acons (vv 1) (acons (vv 2) anil))) anil))) (tt rfl (tsc (tn 3 nd) (tsc (tn 4 nd) tsn))))
    (scons (ssetLc 5 rfl nd (ir (by rfl) C.m_range (vcb b_len (by rfl) C.m_len bl_len (acons (vv 2) anil))) (blkOk_by (own := [("_law_k", 6)]) (by kernel_rfl)) rfl (fun _ _ _ _ _ => (tn 6 nd)) (fun _ _ _ _ _ => (pts1 (tcmp (o_ne hr) (vix (vv 3) (vv 6)) (vix (vv 4) (vv 6))))) (fun _ _ _ _ _ => (vv 6)) (sw_true rfl rfl rfl (by decide +kernel)))
    (sone (sret (vif (tnn hr (vv 5)) (vix (vv 5) vi) vn)))))
theorem ok_law_first_unlike (C : Cm P w K mg base G) : OkP P w K mg base G "_law_first_unlike" ["_law_one", "_law_other", "_law_numbers_here"] 7 F_law_first_unlike := by
  obtain ⟨fd, Fu⟩ := C.says.def_ 63 (d := d_law_first_unlike) rfl
  exact ⟨_, fd, C.g_law_first_unlike, Fu.kp, Fu.bindsN fun _ _ _ _ _ _ us hl => match us, hl with | [_, _, _], _ => rfl, fn_p (st := s_law_first_unlike) (N := N_law_first_unlike) Fu sc_law_first_unlike (b_law_first_unlike C)⟩
theorem b_law_rows_right (C : Cm P w K mg base G) {f : Addr} : Body G P w K mg base N_law_rows_right "_law_rows_right" s_law_rows_right f 7 [0] [0] S_law_rows_right := fun cdv A outer s H E hr =>
  have nd := sc_law_rows_right.nd
  (scons (spar 4 5 rfl nd (acons (wcalN (ok_parting C) hr (by decide) (by rfl) (acons (vv 1) (acons (vv 2) anil)) (vv 3)) (acons (wcalN (ok_below C) hr (by decide) (by rfl) (acons (vv 1) (acons (vv 2) anil)) (vv 3)) anil)))
    (scons (sfor PassesOwn.never rfl (ir (by rfl) C.m_range vi) (tn 6 nd) (scons (sset 7 nd (vif (tval (vv 3)) (wcs 0 (ok_law_rising C) hr (by decide) (by rfl) (acons vi anil)) (wcs 0 (ok_law_numbers C) hr (by decide) (by rfl) (acons (vv 1) (acons vi (acons vi anil))))))
    (scons (sset 8 nd (wcal (ok_law_first_unlike C) hr (by decide) (by rfl) (acons (vv 1) (acons (vv 2) (acons (vv 7) anil)))))
    (scons (sif (PW.pt (wand (tcmp o_isnot (vv 8) vn) (wand1 (PW.pt (wor (tcmp o_is (vv 4) vn) (wor1 (tcmp o_gt (vcb b_len (by rfl) C.m_len bl_len (acons (vv 4) anil)) (vop o_add (vv 8) vi)))))))) (sone (sret vb)) snil)
    (sone (sif (PW.pt (wand (tcmp o_isnot (vv 8) vn) (wand (tval (vv 5)) (wand1 (tnot (tval (vix (wcalD (ok_answers C) hr (by decide) (by rfl) (acons (vv 2) (acons (vv 7) anil))) (vv 8)))))))) (sone (sret vb)) snil))))))
    (sone (sret (vor (vcmp o_is (vv 4) vn) (vone (vcmp o_is (wcalN (ok_parting_holds C) hr (by decide) (by rfl) (acons (vv 1) (acons (vv 2) (acons (vv 4) anil))) (vv 3)) vb)))))))
theorem ok_law_rows_right (C : Cm P w K mg base G) : OkS P w K mg base G "_law_rows_right" ["_law_spring_here", "_law_one", "_law_other", "_law_upward"] 8 F_law_rows_right := by
  obtain ⟨fd, Fu⟩ := C.says.def_ 64 (d := d_law_rows_right) rfl
  exact ⟨_, fd, C.g_law_rows_right, Fu.kp, Fu.bindsN fun _ _ _ _ _ _ us hl => match us, hl with | [_, _, _, _], _ => rfl, fn_s (st := s_law_rows_right) (N := N_law_rows_right) Fu sc_law_rows_right (b_law_rows_right C)⟩
theorem b_law_two_right (C : Cm P w K mg base G) {f : Addr} : Body G P w K mg base N_law_two_right "_law_two_right" s_law_two_right f 8 [] [] S_law_two_right := fun cdv A outer s H E hr =>
  have nd := sc_law_two_right.nd
  (scons (spar 2 3 rfl nd (acons (wcalD (ok_alike C) hr (by decide) (by rfl) (acons (vv 0) (acons (vv 1) anil))) (acons (wcal (ok_pairing_of C) hr (by decide) (by rfl) (acons (vv 0) (acons (vv 1) anil))) anil)))
    (scons (sif (PW.pt (wor (tcmp (o_ne hr) (vand (wcalD (ok_below C) hr (by decide) (by rfl) (acons (vv 0) (acons (vv 1) anil))) (vone (wcalD (ok_below C) hr (by decide) (by rfl) (acons (vv 1) (acons (vv 0) anil))))) (vv 2)) (wor1 (tcmp (o_ne hr) (vcmp o_is (wcalD (ok_parting C) hr (by decide) (by rfl) (acons (vv 0) (acons (vv 1) anil))) vn) (vv 2))))) (sone (sret vb)) snil)
    (scons (sif (PW.pt (wor (tcmp (o_ne hr) (vcmp o_isnot (vv 3) vn) (vv 2)) (wor1 (PW.pt (wand (tval (vv 2)) (wand1 (tcmp o_isnot (wcal (ok_pairing_holds C) hr (by decide) (by rfl) (acons (vv 0) (acons (vv 1) (acons (vv 3) anil)))) vb))))))) (sone (sret vb)) snil)
    (scons (sif (PW.pt (wand (tval (vv 2)) (wand1 (tnot (tval (wcalN (ok_alike C) hr (by decide) (by rfl) (acons (vv 0) (acons (vv 1) anil)) vb)))))) (sone (sret vb)) snil)
    (scons (sif (PW.pt (wand (tval (wcalD (ok_below C) hr (by decide) (by rfl) (acons (vv 0) (acons (vv 1) anil)))) (wand1 (tnot (tval (wcalN (ok_below C) hr (by decide) (by rfl) (acons (vv 0) (acons (vv 1) anil)) vb)))))) (sone (sret vb)) snil)
    (sone (sret (vcmp (o_eq hr) (vand (wcalN (ok_below C) hr (by decide) (by rfl) (acons (vv 0) (acons (vv 1) anil)) vb) (vone (wcalN (ok_below C) hr (by decide) (by rfl) (acons (vv 1) (acons (vv 0) anil)) vb))) (wcalN (ok_alike C) hr (by decide) (by rfl) (acons (vv 0) (acons (vv 1) anil)) vb)))))))))
theorem ok_law_two_right (C : Cm P w K mg base G) : OkP P w K mg base G "_law_two_right" ["_law_one", "_law_other"] 9 F_law_two_right := by
  obtain ⟨fd, Fu⟩ := C.says.def_ 65 (d := d_law_two_right) rfl
  exact ⟨_, fd, C.g_law_two_right, Fu.kp, Fu.bindsN fun _ _ _ _ _ _ us hl => match us, hl with | [_, _], _ => rfl, fn_p (st := s_law_two_right) (N := N_law_two_right) Fu sc_law_two_right (b_law_two_right C)⟩
theorem b_law (C : Cm P w K mg base G) {f : Addr} : Body G P w K mg base N_law "law" s_law f 9 [] [] S_law := fun cdv A outer s H E hr =>
  have nd := sc_law.nd
  (scons (ssetF 1 nd (wcalF (ok_law_spring C) hr (by decide) (by rfl) (acons (vv 0) anil)) dCalF_lst)
    (scons (sfor PassesOwn.never rfl (ir (by rfl) C.m_range vi) (tn 2 nd) (scons (stg (wcs 1 (ok_law_two C) hr (by decide) (by rfl) (acons vi (acons vi anil))) (ttl rfl (tsc (tn 3 nd) (tsc (tn 4 nd) tsn))))
    (scons (sset 4 nd (vif (tcmp (o_eq hr) (wcs 1 (ok_law_dip C) hr (by decide) (by rfl) (acons vi anil)) vi) (wcs 1 (ok_law_wider C) hr (by decide) (by rfl) (acons (vv 4) anil)) (vv 4)))
    (scons (sset 5 nd (wcs 1 (ok_law_wider C) hr (by decide) (by rfl) (acons (wcs 1 (ok_law_shaped C) hr (by decide) (by rfl) (acons (vv 4) anil)) anil)))
    (scons (sfor PassesOwn.never rfl (il (vlst (acons (vtup (acons (vv 3) (acons (vv 4) anil))) (acons (vtup (acons (vv 4) (acons (vv 5) anil))) (acons (vtup (acons (vv 5) (acons (vv 3) anil))) anil))))) (tn 6 nd) (sone (sif (PW.pt (wor (tnot (tval (wcal (ok_law_two_right C) hr (by decide) (by rfl) (acons (vix (vv 6) vi) (acons (vix (vv 6) vi) anil))))) (wor1 (tnot (tval (wcs 1 (ok_law_rows_right C) hr (by decide) (by rfl) (acons (vix (vv 6) vi) (acons (vix (vv 6) vi) (acons (vcmp (o_eq hr) (vv 2) vi) anil))))))))) (sone (sret vb)) snil)))
    (sone (sfor PassesOwn.never rfl (il (vlst (acons vb (acons vb anil)))) (tn 7 nd) (scons (sif (tnot (tval (wcalN (ok_below C) hr (by decide) (by rfl) (acons (vv 4) (acons (vv 5) anil)) (vv 7)))) (sone (sret vb)) snil)
    (sone (sif (PW.pt (wand (tval (wcalN (ok_below C) hr (by decide) (by rfl) (acons (vv 3) (acons (vv 4) anil)) (vv 7))) (wand1 (tnot (tval (wcalN (ok_below C) hr (by decide) (by rfl) (acons (vv 3) (acons (vv 5) anil)) (vv 7))))))) (sone (sret vb)) snil))))))))))
    (sone (sret vb))))
theorem ok_law (C : Cm P w K mg base G) : OkP P w K mg base G "law" ["_law_script"] 10 F_law := by
  obtain ⟨fd, Fu⟩ := C.says.def_ 66 (d := d_law) rfl
  exact ⟨_, fd, C.g_law, Fu.kp, Fu.bindsN fun _ _ _ _ _ _ us hl => match us, hl with | [_], _ => rfl, fn_p (st := s_law) (N := N_law) Fu sc_law (b_law C)⟩
end
end DL
end
section
set_option Elab.async false
set_option linter.all false
set_option maxRecDepth 100000
set_option autoImplicit false
/-! The plain law: how the combinators reckon (the rows e_ are printed by genpl.py). -/
namespace DL
open PySem PySem.Spec
open PyProof.Rows hiding St
open L2
@[simp] theorem e_dV (i : Nat) (ρ : DE) : dV i ρ = match ρ[i]? with
  | some (some d) => some (d, ρ)
  | _ => none := rfl
@[simp] theorem e_dC (d : D) (ρ : DE) : dC d ρ = some (d, ρ) := rfl
@[simp] theorem e_dOp (g : D → D → Option D) (fa fb : TD) (ρ : DE) : dOp g fa fb ρ = (fa ρ).bind fun p => (fb p.2).bind fun q => (g p.1 q.1).map fun d => (d, q.2) := rfl
@[simp] theorem e_dT (f : TD) (ρ : DE) : dT f ρ = match f ρ with
  | some (.bl b, ρ') => some (b, ρ')
  | _ => none := rfl
@[simp] theorem e_dNeg (f : TD) (ρ : DE) : dNeg f ρ = match f ρ with
  | some (.int i, ρ') => some (.int (-i), ρ')
  | _ => none := rfl
@[simp] theorem e_bNot (f : BD) (ρ : DE) : bNot f ρ = (f ρ).map fun p => (!p.1, p.2) := rfl
@[simp] theorem e_dNot (f : TD) (ρ : DE) : dNot f ρ = match f ρ with
  | some (.bl b, ρ') => some (.bl (!b), ρ')
  | _ => none := rfl
@[simp] theorem e_bAnd (f g : BD) (ρ : DE) : bAnd f g ρ = match f ρ with
  | some (true, ρ') => g ρ'
  | some (false, ρ') => some (false, ρ')
  | none => none := rfl
@[simp] theorem e_bOr (f g : BD) (ρ : DE) : bOr f g ρ = match f ρ with
  | some (false, ρ') => g ρ'
  | some (true, ρ') => some (true, ρ')
  | none => none := rfl
@[simp] theorem e_dAnd (f g : TD) (ρ : DE) : dAnd f g ρ = match f ρ with
  | some (.bl true, ρ') => g ρ'
  | some (.bl false, ρ') => some (.bl false, ρ')
  | _ => none := rfl
@[simp] theorem e_dOr (f g : TD) (ρ : DE) : dOr f g ρ = match f ρ with
  | some (.bl false, ρ') => g ρ'
  | some (.bl true, ρ') => some (.bl true, ρ')
  | _ => none := rfl
@[simp] theorem e_dIf (c : BD) (f g : TD) (ρ : DE) : dIf c f g ρ = match c ρ with
  | some (true, ρ') => f ρ'
  | some (false, ρ') => g ρ'
  | none => none := rfl
@[simp] theorem e_dChain (g1 g2 : D → D → Option D) (fa fb fc : TD) (ρ : DE) : dChain g1 g2 fa fb fc ρ = (fa ρ).bind fun p => (fb p.2).bind fun q => match g1 p.1 q.1 with
  | some (.bl true) => (fc q.2).bind fun r => (g2 q.1 r.1).map fun d => (d, r.2)
  | some (.bl false) => some (.bl false, q.2)
  | _ => none := rfl
@[simp] theorem e_aNil (ρ : DE) : aNil ρ = some ([], ρ) := rfl
@[simp] theorem e_aCons (f : TD) (g : LD) (ρ : DE) : aCons f g ρ = (f ρ).bind fun p => (g p.2).map fun q => (p.1 :: q.1, q.2) := rfl
@[simp] theorem e_dTup (f : LD) (ρ : DE) : dTup f ρ = (f ρ).bind fun p => if p.1.length ≤ 1000 then some (.tup p.1, p.2) else none := rfl
@[simp] theorem e_dLst (f : LD) (ρ : DE) : dLst f ρ = (f ρ).bind fun p => if p.1.length ≤ 1000 then some (.lst p.1, p.2) else none := rfl
@[simp] theorem e_dO (i : Nat) (g : TD) (k : D → D → Option D) (ρ : DE) : dO i g k ρ = match ρ[i]? with
  | some (some _) => (g ρ).bind fun p => match p.2[i]? with
    | some (some d) => (k d p.1).map fun r => (r, p.2)
    | _ => none
  | _ => none := rfl
@[simp] theorem e_oN (ρ : DE) : oN ρ = some (none, ρ) := rfl
@[simp] theorem e_oS (f : TD) (ρ : DE) : oS f ρ = match f ρ with
  | some (.int i, ρ') => some (some i, ρ')
  | _ => none := rfl
@[simp] theorem e_dSl (f : TD) (l u : OD) (ρ : DE) : dSl f l u ρ = (f ρ).bind fun p => (l p.2).bind fun q => (u q.2).bind fun r => (gSl q.1 r.1 p.1).map fun d => (d, r.2) := rfl
@[simp] theorem e_dRev (f : TD) (ρ : DE) : dRev f ρ = match f ρ with
  | some (.lst ds, ρ') => some (.lst ds.reverse, ρ')
  | _ => none := rfl
@[simp] theorem e_dCb (g : List D → Option D) (f : LD) (ρ : DE) : dCb g f ρ = (f ρ).bind fun p => (g p.1).map fun d => (d, p.2) := rfl
@[simp] theorem e_dIsi (T : String) (f : TD) (ρ : DE) : dIsi T f ρ = (f ρ).bind fun p => ((tyName p.1).bind fun n => kitB n T).map fun b => (.bl b, p.2) := rfl
@[simp] theorem e_dOwn (i : Nat) (k : List D → Option D) (ρ : DE) : dOwn i k ρ = match ρ[i]? with
  | some (some (.lst ds)) => (k ds).map fun d => (d, ρ)
  | _ => none := rfl
@[simp] theorem e_dNotInO (f : TD) (i : Nat) (ρ : DE) : dNotInO f i ρ = (f ρ).bind fun p => match p.2[i]? with
  | some (some (.lst ds)) => if okPy p.1 && okPy (.lst ds) then some (.bl (!inL p.1 ds), p.2) else none
  | _ => none := rfl
@[simp] theorem e_dNN (f : TD) (ρ : DE) : dNN f ρ = (f ρ).bind fun p => (notNil p.1).map fun d => (d, p.2) := rfl
@[simp] theorem e_r1 (f : TD) (ρ : DE) : r1 f ρ = match f ρ with
  | some (.int n, ρ') => some (0, n, ρ')
  | _ => none := rfl
@[simp] theorem e_r2 (f g : TD) (ρ : DE) : r2 f g ρ = match f ρ with
  | some (.int i, ρ1) => match g ρ1 with
    | some (.int j, ρ') => some (i, j, ρ')
    | _ => none
  | _ => none := rfl
@[simp] theorem e_dLr (f : RD) (ρ : DE) : dLr f ρ = (f ρ).bind fun p => if rgOk p.1 p.2.1 then some (.lst (rgD p.1 p.2.1), p.2.2) else none := rfl
@[simp] theorem e_dFld (j : Nat) (f : TD) (ρ : DE) : dFld j f ρ = (f ρ).bind fun p => (nodeF j p.1).map fun d => (d, p.2) := rfl
@[simp] theorem e_dNode (f : LD) (ρ : DE) : dNode f ρ = match f ρ with
  | some ([k, b, s, t], ρ') => some (.node k b s t, ρ')
  | _ => none := rfl
@[simp] theorem e_dCal (n : Nat) (F : List D → Option D) (g : LD) (ρ : DE) : dCal n F g ρ = (g ρ).bind fun p => if p.1.length = n then (F p.1).map fun d => (d, p.2) else none := rfl
@[simp] theorem e_dMet (F : List D → Option D) (f : TD) (ρ : DE) : dMet F f ρ = match f ρ with
  | some (.node k b s t, ρ') => (F [.node k b s t]).map fun d => (d, ρ')
  | _ => none := rfl
@[simp] theorem e_gN (i : Nat) (d : D) (ρ : DE) : gN i d ρ = if i < ρ.length then some (ρ.set i (some d)) else none := rfl
@[simp] theorem e_glN (ds : List D) (ρ : DE) : glN ds ρ = match ds with
  | [] => some ρ
  | _ => none := rfl
@[simp] theorem e_glC (g : GD) (h : GL) (ds : List D) (ρ : DE) : glC g h ds ρ = match ds with
  | d :: r => (g d ρ).bind (h r)
  | [] => none := rfl
@[simp] theorem e_gT (n : Nat) (h : GL) (d : D) (ρ : DE) : gT n h d ρ = match d with
  | .tup ds => if ds.length = n then h ds ρ else none
  | _ => none := rfl
@[simp] theorem e_lL (f : TD) (ρ : DE) : lL f ρ = match f ρ with
  | some (.lst ds, ρ') => some (ds, ρ')
  | _ => none := rfl
@[simp] theorem e_lT (f : TD) (ρ : DE) : lT f ρ = match f ρ with
  | some (.tup ds, ρ') => some (ds, ρ')
  | _ => none := rfl
@[simp] theorem e_lR (f : TD) (ρ : DE) : lR f ρ = match f ρ with
  | some (.int n, ρ') => if -(2 ^ 62) ≤ n ∧ n < 2 ^ 62 then some ((List.range n.toNat).map fun i => D.int (i : Nat), ρ') else none
  | _ => none := rfl
@[simp] theorem e_lZ (f : LD) (ρ : DE) : lZ f ρ = match f ρ with
  | some ([.lst as, .lst bs], ρ') => some (zipD as bs, ρ')
  | some ([.tup as, .tup bs], ρ') => some (zipD as bs, ρ')
  | _ => none := rfl
@[simp] theorem e_lEl (f : TD) (ρ : DE) : lEl f ρ = match f ρ with
  | some (.lst ds, ρ') => some (enumD ds, ρ')
  | _ => none := rfl
@[simp] theorem e_lEt (f : TD) (ρ : DE) : lEt f ρ = match f ρ with
  | some (.tup ds, ρ') => some (enumD ds, ρ')
  | _ => none := rfl
@[simp] theorem e_dLc (own vs : List Nat) (it : LD) (g : GD) (c : BD) (f : TD) (ρ : DE) : dLc own vs it g c f ρ = (it ρ).bind fun p => if p.1.length < sizeLine then (lcL vs g c f p.1 (wipeD p.2 vs)).map fun q => (.lst q.1, mixD own p.2 q.2) else none := rfl
@[simp] theorem e_bYes (ρ : DE) : bYes ρ = some (true, ρ) := rfl
@[simp] theorem e_sNil (ρ : DE) : sNil ρ = some (.nx ρ) := rfl
@[simp] theorem e_sSeq (f g : SD) (ρ : DE) : sSeq f g ρ = match f ρ with
  | some (.nx ρ') => g ρ'
  | r => r := rfl
@[simp] theorem e_sRet (f : TD) (ρ : DE) : sRet f ρ = (f ρ).map fun p => .rt p.1 p.2 := rfl
@[simp] theorem e_sIf (c : BD) (f g : SD) (ρ : DE) : sIf c f g ρ = match c ρ with
  | some (true, ρ') => f ρ'
  | some (false, ρ') => g ρ'
  | none => none := rfl
@[simp] theorem e_sSet (i : Nat) (f : TD) (ρ : DE) : sSet i f ρ = (f ρ).bind fun p => (gN i p.1 p.2).map Fl.nx := rfl
@[simp] theorem e_sTg (f : TD) (g : GD) (ρ : DE) : sTg f g ρ = (f ρ).bind fun p => (g p.1 p.2).map Fl.nx := rfl
@[simp] theorem e_gSto (i : Nat) (f : TD) (d : D) (ρ : DE) : gSto i f d ρ = match ρ[i]? with
  | some (some _) => match f ρ with
    | some (.int k, ρ1) => match ρ1[i]? with
      | some (some (.lst l)) => (ixN l.length k).map fun j => ρ1.set i (some (.lst (l.set j d)))
      | _ => none
    | _ => none
  | _ => none := rfl
@[simp] theorem e_sPar (i j : Nat) (f : LD) (ρ : DE) : sPar i j f ρ = match f ρ with
  | some ([x, y], ρ') => if i < ρ'.length ∧ j < ρ'.length then some (.nx ((ρ'.set i (some x)).set j (some y))) else none
  | _ => none := rfl
@[simp] theorem e_sParF (i j : Nat) (f g : TD) (ρ : DE) : sParF i j f g ρ = (f ρ).bind fun p => (g p.2).bind fun r => if i < r.2.length ∧ j < r.2.length then some (.nx ((r.2.set i (some p.1)).set j (some r.1))) else none := rfl
@[simp] theorem e_sAug (i : Nat) (f : TD) (ρ : DE) : sAug i f ρ = match ρ[i]? with
  | some (some (.int a)) => match f ρ with
    | some (.int b, ρ') => if i < ρ'.length then some (.nx (ρ'.set i (some (.int (a + b))))) else none
    | _ => none
  | _ => none := rfl
@[simp] theorem e_sApp (i : Nat) (f : TD) (ρ : DE) : sApp i f ρ = match ρ[i]? with
  | some (some _) => (f ρ).bind fun p => match p.2[i]? with
    | some (some (.lst l)) => if l.length < sizeLine then some (.nx (p.2.set i (some (.lst (l ++ [p.1]))))) else none
    | _ => none
  | _ => none := rfl
@[simp] theorem e_sExt (i : Nat) (f : TD) (ρ : DE) : sExt i f ρ = match ρ[i]? with
  | some (some _) => (f ρ).bind fun p => match p.2[i]?, p.1 with
    | some (some (.lst l)), .lst m => if l.length + m.length ≤ sizeLine then some (.nx (p.2.set i (some (.lst (l ++ m))))) else none
    | _, _ => none
  | _ => none := rfl
@[simp] theorem e_sFor (it : LD) (g : GD) (b : SD) (ρ : DE) : sFor it g b ρ = (it ρ).bind fun p => sForL g b p.1 p.2 := rfl
@[simp] theorem e_dListV (f : TD) (ρ : DE) : dListV f ρ = match f ρ with
  | some (.dic _ ws, ρ') => some (.lst ws, ρ')
  | _ => none := rfl
@[simp] theorem e_dDc (own vs : List Nat) (it : LD) (g : GD) (fk fv : TD) (ρ : DE) : dDc own vs it g fk fv ρ = (it ρ).bind fun p => if p.1.length < sizeLine then (dcL vs g fk fv p.1 [] [] (wipeD p.2 vs)).map fun q => (.dic q.1.1 q.1.2, mixD own p.2 q.2) else none := rfl
@[simp] theorem e_dSlq (f : TD) (l u : OD) (ρ : DE) : dSlq f l u ρ = (f ρ).bind fun p => (l p.2).bind fun q => (u q.2).bind fun r => (gSlq q.1 r.1 p.1).map fun d => (d, r.2) := rfl
@[simp] theorem e_gTl (n : Nat) (h : GL) (d : D) (ρ : DE) : gTl n h d ρ = match d with
  | .lst ds => if ds.length = n then h ds ρ else none
  | _ => none := rfl
@[simp] theorem e_dCalN (n : Nat) (F : List D → Option D) (g : LD) (h : TD) (ρ : DE) : dCalN n F g h ρ = (g ρ).bind fun p => (h p.2).bind fun q => if p.1.length = n then (F (p.1 ++ [q.1])).map fun d => (d, q.2) else none := rfl
@[simp] theorem e_dCS (i n : Nat) (F : List D → List D → Option (D × List D)) (g : LD) (ρ : DE) : dCS i n F g ρ = match ρ[i]? with
  | some (some _) => (g ρ).bind fun p => match p.2[i]? with
    | some (some (.lst l)) => if p.1.length + 1 = n then (F l p.1).map fun r => (r.1, p.2.set i (some (.lst r.2))) else none
    | _ => none
  | _ => none := rfl
@[simp] theorem e_dCalD (n : Nat) (dd : D) (F : List D → Option D) (g : LD) (ρ : DE) : dCalD n dd F g ρ = (g ρ).bind fun p => if (p.1 ++ [dd]).length = n then (F (p.1 ++ [dd])).map fun d => (d, p.2) else none := by
  show ((g ρ).map fun p => (p.1 ++ [dd], p.2)).bind _ = _
  cases g ρ <;> rfl
@[simp] theorem e_dCalF (n : Nat) (F : List D → Option (List D)) (g : LD) (ρ : DE) : dCalF n F g ρ = (g ρ).bind fun p => if p.1.length = n then (F p.1).map fun l => (.lst l, p.2) else none := rfl
/-! ### operations -/
@[simp] theorem o_gAdd_i (i j : Int) : gAdd (.int i) (.int j) = some (.int (i + j)) := rfl
@[simp] theorem o_gAdd_t (a b : List D) : gAdd (.tup a) (.tup b) = if a.length + b.length ≤ sizeLine then some (.tup (a ++ b)) else none := rfl
@[simp] theorem o_gAdd_l (a b : List D) : gAdd (.lst a) (.lst b) = if a.length + b.length ≤ sizeLine then some (.lst (a ++ b)) else none := rfl
@[simp] theorem o_gSub (i j : Int) : gSub (.int i) (.int j) = some (.int (i - j)) := rfl
@[simp] theorem o_gMul (i j : Int) : gMul (.int i) (.int j) = if mulOk i j then some (.int (i * j)) else none := rfl
@[simp] theorem o_gDiv (i j : Int) : gDiv (.int i) (.int j) = if 0 < j ∧ j < 1073741824 then some (.int (i / j)) else none := rfl
@[simp] theorem o_gMod (i j : Int) : gMod (.int i) (.int j) = if 0 < j then some (.int (i % j)) else none := rfl
@[simp] theorem o_gLt (i j : Int) : gLt (.int i) (.int j) = some (.bl (decide (i < j))) := rfl
@[simp] theorem o_gLe (i j : Int) : gLe (.int i) (.int j) = some (.bl (decide (i ≤ j))) := rfl
@[simp] theorem o_gGt (i j : Int) : gGt (.int i) (.int j) = some (.bl (decide (j < i))) := rfl
@[simp] theorem o_gGe (i j : Int) : gGe (.int i) (.int j) = some (.bl (decide (j ≤ i))) := rfl
@[simp] theorem o_gIs (a : D) : gIs a .non = some (.bl (isNon a)) := rfl
@[simp] theorem o_gIsB (a b : Bool) : gIs (.bl a) (.bl b) = some (.bl (decide (a = b))) := rfl
@[simp] theorem o_gIsNot (a : D) : gIsNot a .non = some (.bl (!isNon a)) := rfl
@[simp] theorem o_gIsNotB (a b : Bool) : gIsNot (.bl a) (.bl b) = some (.bl (!decide (a = b))) := rfl
@[simp] theorem o_non : isNon .non = true := rfl
@[simp] theorem o_non_i (i : Int) : isNon (.int i) = false := rfl
@[simp] theorem o_non_b (i : Bool) : isNon (.bl i) = false := rfl
@[simp] theorem o_non_t (i : List D) : isNon (.tup i) = false := rfl
@[simp] theorem o_non_l (i : List D) : isNon (.lst i) = false := rfl
@[simp] theorem o_non_n (a b c d : D) : isNon (.node a b c d) = false := rfl
@[simp] theorem o_gIx_l (ds : List D) (i : Int) : gIx (.lst ds) (.int i) = atI ds i := rfl
@[simp] theorem o_gIx_t (ds : List D) (i : Int) : gIx (.tup ds) (.int i) = atI ds i := rfl
@[simp] theorem o_gSl_l (lo hi : Option Int) (ds : List D) : gSl lo hi (.lst ds) = some (.lst (cutD ds lo hi)) := rfl
@[simp] theorem o_gSl_t (lo hi : Option Int) (ds : List D) : gSl lo hi (.tup ds) = some (.tup (cutD ds lo hi)) := rfl
@[simp] theorem o_gSlq (lo hi : Option Int) (ns : List Int) : gSlq lo hi (.opq ns) = some (.lst ((cutD ns lo hi).map D.int)) := rfl
@[simp] theorem o_gLen_l (ds : List D) : gLen [.lst ds] = some (.int ds.length) := rfl
@[simp] theorem o_gLen_t (ds : List D) : gLen [.tup ds] = some (.int ds.length) := rfl
@[simp] theorem o_gAbs (i : Int) : gAbs [.int i] = some (.int (if i < 0 then -i else i)) := rfl
@[simp] theorem o_gMin (i j : Int) : gMin [.int i, .int j] = some (.int (if j < i then j else i)) := rfl
@[simp] theorem o_gInt_i (i : Int) : gInt [.int i] = some (.int i) := rfl
@[simp] theorem o_gInt_b (k : Bool) : gInt [.bl k] = some (.int (if k then 1 else 0)) := rfl
@[simp] theorem o_gTuple (ds : List D) : gTuple [.lst ds] = some (.tup ds) := rfl
@[simp] theorem o_gAll (ds : List D) : gAll [.lst ds] = (bools ds).map fun bs => .bl (bs.all id) := rfl
@[simp] theorem o_notNil (ds : List D) : notNil (.lst ds) = some (.bl (!ds.isEmpty)) := rfl
@[simp] theorem o_gListD (ks ws : List D) : gListD [.dic ks ws] = some (.lst ks) := rfl
theorem bools_map {α : Type} (f : α → Bool) : ∀ l : List α, bools (l.map fun x => D.bl (f x)) = some (l.map f)
  | [] => rfl
  | x :: l => by
    show (bools (l.map fun x => D.bl (f x))).map _ = _
    rw [bools_map f l]
    rfl
/-! subscripts, slices -/
theorem atI_nat {α : Type} (xs : List α) (k : Nat) : atI xs (k : Int) = xs[k]? := by
  unfold atI ixN
  rw [if_pos (by omega)]
  by_cases h : k < xs.length
  · rw [if_pos (by omega), Option.bind_some, Int.toNat_natCast]
  · rw [if_neg (by omega)]
    rw [List.getElem?_eq_none (by omega)]
    rfl
@[simp] theorem atI_natc {α : Type} (xs : List α) (k : Nat) : atI xs (k : Int) = xs[k]? := atI_nat xs k
@[simp] theorem atI_0 {α : Type} (xs : List α) : atI xs 0 = xs[0]? := atI_nat xs 0
@[simp] theorem atI_1 {α : Type} (xs : List α) : atI xs 1 = xs[1]? := atI_nat xs 1
@[simp] theorem atI_2 {α : Type} (xs : List α) : atI xs 2 = xs[2]? := atI_nat xs 2
@[simp] theorem atI_3 {α : Type} (xs : List α) : atI xs 3 = xs[3]? := atI_nat xs 3
@[simp] theorem atI_m1 {α : Type} (xs : List α) : atI xs (-1) = xs.getLast? := by
  unfold atI ixN
  rw [if_neg (by omega)]
  cases xs with
  | nil => rfl
  | cons x r =>
    rw [if_pos (by rw [List.length_cons]; omega), Option.bind_some, List.getLast?_eq_getElem?]
    congr 1
    rw [List.length_cons]
    omega
theorem cutD_from {α : Type} (xs : List α) (k : Nat) : cutD xs (some (k : Int)) none = xs.drop k := by
  unfold cutD
  rw [HT.sIx_nat, HT.sIx_none]
  by_cases h : k ≤ xs.length
  · rw [Nat.min_eq_left h]
    rw [List.take_of_length_le (by rw [List.length_drop] <;> omega)]
  · rw [Nat.min_eq_right (by omega), List.drop_of_length_le (Nat.le_refl _), List.drop_of_length_le (by omega)]
    simp
theorem cutD_to {α : Type} (xs : List α) (k : Nat) : cutD xs none (some (k : Int)) = xs.take k := by
  unfold cutD
  rw [HT.sIx_nat, HT.sIx_none, List.drop_zero, Nat.sub_zero]
  by_cases h : k ≤ xs.length
  · rw [Nat.min_eq_left h]
  · rw [Nat.min_eq_right (by omega), List.take_of_length_le (Nat.le_refl _), List.take_of_length_le (by omega)]
@[simp] theorem cutD_fromc {α : Type} (xs : List α) (k : Nat) : cutD xs (some (k : Int)) none = xs.drop k := cutD_from xs k
@[simp] theorem cutD_toc {α : Type} (xs : List α) (k : Nat) : cutD xs none (some (k : Int)) = xs.take k := cutD_to xs k
@[simp] theorem cutD_1 {α : Type} (xs : List α) : cutD xs (some 1) none = xs.drop 1 := cutD_from xs 1
@[simp] theorem cutD_2 {α : Type} (xs : List α) : cutD xs (some 2) none = xs.drop 2 := cutD_from xs 2
@[simp] theorem cutD_3 {α : Type} (xs : List α) : cutD xs (some 3) none = xs.drop 3 := cutD_from xs 3
@[simp] theorem cutD_t2 {α : Type} (xs : List α) : cutD xs none (some 2) = xs.take 2 := cutD_to xs 2
@[simp] theorem cutD_t3 {α : Type} (xs : List α) : cutD xs none (some 3) = xs.take 3 := cutD_to xs 3
@[simp] theorem cutD_m1 {α : Type} (xs : List α) : cutD xs none (some (-1)) = xs.dropLast := by
  unfold cutD
  rw [HT.sIx_none, List.drop_zero, Nat.sub_zero, List.dropLast_eq_take]
  congr 1
  show (if (-1 : Int) < 0 then ((-1 : Int) + (xs.length : Int)).toNat else min (-1 : Int).toNat xs.length) = xs.length - 1
  rw [if_pos (by omega)]
  omega
theorem sFL_nil (g : GD) (b : SD) (ρ : DE) : sForL g b [] ρ = some (.nx ρ) := rfl
theorem sFL_cons (g : GD) (b : SD) (d : D) (ds : List D) (ρ : DE) : sForL g b (d :: ds) ρ = (g d ρ).bind fun ρ1 => match b ρ1 with
    | some (.nx ρ2) => sForL g b ds ρ2
    | r => r := rfl
theorem sz (n : Nat) (h : n ≤ 16777216) : n ≤ sizeLine := by rw [sizeLine_eq]; exact h
theorem sz' (n : Nat) (h : n < 16777216) : n < sizeLine := by rw [sizeLine_eq]; exact h
@[simp] theorem e_runP (n : Nat) (f : SD) (ds : List D) : runP n f ds = match f (startD n ds) with
  | some (.rt d _) => some d
  | some (.nx _) => some .non
  | none => none := rfl
end DL
end
section
set_option Elab.async false
set_option linter.all false
set_option maxRecDepth 100000
set_option autoImplicit false
/-! The plain law: receivers, rests, steps. -/
namespace DL
open PySem PySem.Spec
open PyProof.Rows hiding St
open L2
theorem p_greater (a b : Int) : F_greater [.int a, .int b] = some (.int (if a < b then b else a)) := by
  simp [F_greater, S_greater, startD]
  by_cases h : a < b <;> simp [h]
theorem p_lesser (a b : Int) : F_lesser [.int a, .int b] = some (.int (if a < b then a else b)) := by
  simp [F_lesser, S_lesser, startD]
  by_cases h : a < b <;> simp [h]
def eO : Option Int → D
  | none => .non
  | some i => .int i
abbrev Rng := Option Int × Option Int
def eR (r : Rng) : D := .tup [eO r.1, eO r.2]
@[simp] theorem non_eR (r : Rng) : isNon (eR r) = false := rfl
def eA : Option Rng → D
  | none => .non
  | some r => eR r
inductive Deed where
  | take | keep | leave | drop
  deriving DecidableEq
def eDd : Deed → D
  | .take => .str "take"
  | .keep => .str "keep"
  | .leave => .str "leave"
  | .drop => .str "drop"
structure Row where
  ahead : Rng
  after : Option Rng
  deed : Deed
  behind : Nat
def eRow (r : Row) : D := .tup [eR r.ahead, eA r.after, eDd r.deed, .int r.behind]
abbrev Rcv := List (List Row)
def eSt (s : List Row) : D := .tup (s.map eRow)
def eRc (R : Rcv) : D := .tup (R.map eSt)
abbrev Rest := Nat × Option Int
def eRest (r : Rest) : D := match r.2 with
  | none => .tup [.int r.1]
  | some g => .tup [.int r.1, .int g]
def lies (n : Int) (r : Rng) : Bool := (match r.1 with
  | none => true
  | some lo => decide (lo ≤ n)) && (match r.2 with
  | none => true
  | some hi => decide (n ≤ hi))
theorem p_lies (n : Int) (r : Rng) : F_lies_in [.int n, eR r] = some (.bl (lies n r)) := by
  obtain ⟨lo, hi⟩ := r
  unfold eR lies
  cases lo with
  | none => cases hi <;> simp [F_lies_in, S_lies_in, startD, eO]
  | some a => by_cases h : a ≤ n <;> cases hi <;> simp [F_lies_in, S_lies_in, startD, eO, h]
def counts (row : Row) (gap : Option Int) (step : Int) : Bool := lies step row.ahead && (match row.after with
  | none => true
  | some r => match gap with
    | none => false
    | some g => lies (step - g) r)
theorem o_two_len (a : D) (b : List D) : (a :: b).length = b.length + 1 := rfl
@[simp] theorem q_int (i j : Int) : gEq (.int i) (.int j) = some (.bl (decide (i = j))) := by
  show (if okPy (.int i) && okPy (.int j) then some (D.bl (PyData.eqv (.int i) (.int j))) else none) = _
  have h : ∀ i : Int, okPy (.int i) = true := fun i => by
    show (true && (true && decide (0 ≤ 64))) = true
    rfl
  rw [h, h]
  show some (D.bl (i == j)) = _
  congr 2
@[simp] theorem q_str (x y : Str) : gEq (.str x) (.str y) = some (.bl (decide (x = y))) := rfl
def bodyCR : SD := (sSeq (sTg (dV 4) (gT 4 (glC (gN 5) (glC (gN 6) (glC (gN 7) (glC (gN 8) glN))))))
    (sIf (dT (dCal 2 F_lies_in (aCons (dV 2) (aCons (dV 5) aNil)))) (sIf (bOr (dT (dOp gIs (dV 6) (dC .non))) (bAnd (dT (dOp gEq (dCb gLen (aCons (dV 1) aNil)) (dC (.int 2)))) (dT (dCal 2 F_lies_in (aCons (dOp gSub (dV 2) (dOp gIx (dV 1) (dC (.int 1)))) (aCons (dV 6) aNil)))))) (sRet (dV 3)) sNil) sNil))
theorem bodyCR_ok (R : D) (rest : Rest) (step : Int) (k : Nat) (row : Row) (a5 a6 a7 a8 : Option D) :
    bodyCR [some R, some (eRest rest), some (.int step), some (.int k), some (eRow row), a5, a6, a7, a8] =
      if counts row rest.2 step = true then some (.rt (.int k) [some R, some (eRest rest), some (.int step), some (.int k), some (eRow row), some (eR row.ahead), some (eA row.after), some (eDd row.deed), some (.int row.behind)])
      else some (.nx [some R, some (eRest rest), some (.int step), some (.int k), some (eRow row), some (eR row.ahead), some (eA row.after), some (eDd row.deed), some (.int row.behind)]) := by
  obtain ⟨s, gap⟩ := rest
  obtain ⟨ah, af, dd, bh⟩ := row
  unfold counts
  cases h : lies step ah with
  | false => simp [bodyCR, eRow, eRest, p_lies, h]
  | true =>
    cases af with
    | none => simp [bodyCR, eRow, eRest, p_lies, h, eA]
    | some r =>
      cases gap with
      | none => simp [bodyCR, eRow, eRest, p_lies, h, eA]
      | some g => cases h2 : lies (step - g) r <;> simp [bodyCR, eRow, eRest, p_lies, h, h2, eA]
theorem loopCR (R : D) (rest : Rest) (step : Int) : ∀ (rows : List Row) (k : Nat) (a3 a4 a5 a6 a7 a8 : Option D),
    (rows.findIdx? (fun row => counts row rest.2 step) = none ∧ ∃ ρ, sForL (gT 2 (glC (gN 3) (glC (gN 4) glN))) bodyCR (((rows.map eRow).zipIdx k).map fun p => D.tup [.int (p.2 : Nat), p.1]) [some R, some (eRest rest), some (.int step), a3, a4, a5, a6, a7, a8] = some (.nx ρ)) ∨
    (∃ i ρ, rows.findIdx? (fun row => counts row rest.2 step) = some i ∧ sForL (gT 2 (glC (gN 3) (glC (gN 4) glN))) bodyCR (((rows.map eRow).zipIdx k).map fun p => D.tup [.int (p.2 : Nat), p.1]) [some R, some (eRest rest), some (.int step), a3, a4, a5, a6, a7, a8] = some (.rt (.int ((k + i : Nat) : Int)) ρ))
  | [], k, a3, a4, a5, a6, a7, a8 => .inl ⟨rfl, _, rfl⟩
  | row :: rows, k, a3, a4, a5, a6, a7, a8 => by
    rw [List.map_cons, List.zipIdx_cons, List.map_cons, sFL_cons, List.findIdx?_cons]
    have e : gT 2 (glC (gN 3) (glC (gN 4) glN)) (D.tup [.int (k : Nat), eRow row]) [some R, some (eRest rest), some (.int step), a3, a4, a5, a6, a7, a8] = some [some R, some (eRest rest), some (.int step), some (.int k), some (eRow row), a5, a6, a7, a8] := by simp
    rw [e, Option.bind_some, bodyCR_ok]
    by_cases h : counts row rest.2 step = true
    · rw [if_pos h, if_pos h]
      exact .inr ⟨0, _, rfl, rfl⟩
    · rw [if_neg h, if_neg h]
      rcases loopCR R rest step rows (k + 1) (some (.int k)) (some (eRow row)) (some (eR row.ahead)) (some (eA row.after)) (some (eDd row.deed)) (some (.int row.behind)) with ⟨h1, ρ, h2⟩ | ⟨i, ρ, h1, h2⟩
      · exact .inl ⟨by rw [h1]; rfl, ρ, h2⟩
      · exact .inr ⟨i + 1, ρ, by rw [h1]; rfl, by rw [show k + (i + 1) = k + 1 + i by omega]; exact h2⟩
def find (R : Rcv) (rest : Rest) (step : Int) : Option Nat := ((R[rest.1]?).getD []).findIdx? fun row => counts row rest.2 step
@[simp] theorem eRest_0 (rest : Rest) (ρ : DE) : (gIx (eRest rest) (.int 0)) = some (.int rest.1) := by
  obtain ⟨s, g⟩ := rest
  cases g <;> rfl
theorem p_counting (R : Rcv) (rest : Rest) (step : Int) (h : rest.1 < R.length) : F_counting_row [eRc R, eRest rest, .int step] = some (match find R rest step with
    | none => .non
    | some i => .int i) := by
  unfold find
  rw [List.getElem?_eq_getElem h, Option.getD_some]
  have q := loopCR (eRc R) rest step R[rest.1] 0 none none none none none none
  have e0 : gIx (eRest rest) (.int 0) = some (.int rest.1) := eRest_0 rest []
  have e1 : (R.map eSt)[rest.1]? = some (.tup (R[rest.1].map eRow)) := by rw [List.getElem?_map, List.getElem?_eq_getElem h]; rfl
  rcases q with ⟨h1, ρ, h2⟩ | ⟨i, ρ, h1, h2⟩
  · rw [h1]
    simp [F_counting_row, S_counting_row, startD, e0, eRc, e1, enumD]
    simp [eRc] at h2
    rw [← bodyCR, h2]
  · rw [h1]
    simp [F_counting_row, S_counting_row, startD, e0, eRc, e1, enumD]
    simp [eRc] at h2
    rw [← bodyCR, h2]
end DL
end
section
set_option Elab.async false
set_option linter.all false
set_option maxRecDepth 100000
set_option autoImplicit false
/-! The plain law: equality of encoded data. -/
namespace DL
open PySem PySem.Spec
open PyProof.Rows hiding St
open L2
structure EnOk {α : Type} (e : α → D) (k : Nat) : Prop where
  isp : ∀ a, isPy (e a) = true
  lay : ∀ a, (py (e a)).canLay0 = true
  dep : ∀ a, (py (e a)).depth ≤ k
  eqv : ∀ a b, PyData.eqv (py (e a)) (py (e b)) = true ↔ a = b
  nos : ∀ a x, e a ≠ .str x
section
variable {α β : Type} {e : α → D} {f : β → D} {k m : Nat}
theorem EnOk.ok (E : EnOk e k) (hk : k ≤ 60) (a : α) : okPy (e a) = true := by
  show (isPy (e a) && ((py (e a)).canLay0 && decide ((py (e a)).depth ≤ 64))) = true
  rw [E.isp, E.lay, decide_eq_true (Nat.le_trans (E.dep a) (by omega))]
  rfl
theorem EnOk.eqv' [DecidableEq α] (E : EnOk e k) (a b : α) : PyData.eqv (py (e a)) (py (e b)) = decide (a = b) := by
  by_cases h : a = b
  · rw [decide_eq_true h]; exact (E.eqv a b).mpr h
  · rw [decide_eq_false h]
    cases q : PyData.eqv (py (e a)) (py (e b)) with
    | false => rfl
    | true => exact absurd ((E.eqv a b).mp q) h
theorem gEq_of {a b : D} (n : ∀ x, a ≠ .str x) : gEq a b = if okPy a && okPy b then some (.bl (PyData.eqv (py a) (py b))) else none := by
  cases a <;> first | rfl | exact absurd rfl (n _)
theorem gNe_of {a b : D} (n : ∀ x, a ≠ .str x) : gNe a b = if okPy a && okPy b then some (.bl (!PyData.eqv (py a) (py b))) else none := by
  cases a <;> first | rfl | exact absurd rfl (n _)
theorem EnOk.eq [DecidableEq α] (E : EnOk e k) (hk : k ≤ 60) (a b : α) : gEq (e a) (e b) = some (.bl (decide (a = b))) := by
  rw [gEq_of (E.nos a), E.ok hk, E.ok hk, E.eqv']
  rfl
theorem EnOk.ne [DecidableEq α] (E : EnOk e k) (hk : k ≤ 60) (a b : α) : gNe (e a) (e b) = some (.bl (!decide (a = b))) := by
  rw [gNe_of (E.nos a), E.ok hk, E.ok hk, E.eqv']
  rfl
theorem isPyL_map (E : EnOk e k) : ∀ l : List α, isPyL (l.map e) = true
  | [] => rfl
  | a :: l => by
    show (isPy (e a) && isPyL (l.map e)) = true
    rw [E.isp, isPyL_map E l]; rfl
theorem layAll_map (E : EnOk e k) : ∀ l : List α, PyData.canLayAll0 (pyL (l.map e)) = true
  | [] => rfl
  | a :: l => by
    show ((py (e a)).canLay0 && PyData.canLayAll0 (pyL (l.map e))) = true
    rw [E.lay, layAll_map E l]; rfl
theorem depAll_map (E : EnOk e k) : ∀ l : List α, PyData.depthAll (pyL (l.map e)) ≤ k
  | [] => Nat.zero_le _
  | a :: l => by
    show max ((py (e a)).depth) (PyData.depthAll (pyL (l.map e))) ≤ k
    have := E.dep a
    have := depAll_map E l
    omega
theorem eqvAll_map (E : EnOk e k) : ∀ l m : List α, PyData.eqvAll (pyL (l.map e)) (pyL (m.map e)) = true ↔ l = m
  | [], [] => by simp [pyL, PyData.eqvAll]
  | [], b :: m => by simp [pyL, PyData.eqvAll]
  | a :: l, [] => by simp [pyL, PyData.eqvAll]
  | a :: l, b :: m => by
    show (PyData.eqv (py (e a)) (py (e b)) && PyData.eqvAll (pyL (l.map e)) (pyL (m.map e))) = true ↔ _
    rw [Bool.and_eq_true, E.eqv, eqvAll_map E l m, List.cons.injEq]
theorem EnOk.lst_ok (E : EnOk e k) (hk : k ≤ 60) (l : List α) : okPy (.lst (l.map e)) = true := by
  show (isPyL (l.map e) && (PyData.canLayAll0 (pyL (l.map e)) && decide (PyData.depthAll (pyL (l.map e)) + 1 ≤ 64))) = true
  have := depAll_map E l
  rw [isPyL_map E, layAll_map E, decide_eq_true (by omega)]
  rfl
theorem inL_map [DecidableEq α] (E : EnOk e k) (a : α) : ∀ l : List α, inL (e a) (l.map e) = decide (a ∈ l)
  | [] => rfl
  | b :: l => by
    show (PyData.eqv (py (e b)) (py (e a)) || inL (e a) (l.map e)) = _
    rw [E.eqv', inL_map E a l]
    by_cases h : a = b
    · subst h; simp
    · have h' : ¬ b = a := fun z => h z.symm
      simp [h, h']
theorem EnOk.inn [DecidableEq α] (E : EnOk e k) (hk : k ≤ 60) (neg : Bool) (a : α) (l : List α) : gIn neg (e a) (.lst (l.map e)) = some (.bl (if neg then !decide (a ∈ l) else decide (a ∈ l))) := by
  have h : gIn neg (e a) (.lst (l.map e)) = if okPy (e a) && okPy (.lst (l.map e)) then some (.bl (if neg then !inL (e a) (l.map e) else inL (e a) (l.map e))) else none := rfl
  rw [h, E.ok hk, E.lst_ok hk, inL_map E]
  rfl
theorem EnOk.tupL (E : EnOk e k) : EnOk (fun l : List α => D.tup (l.map e)) (k + 1) where
  isp l := isPyL_map E l
  lay l := layAll_map E l
  dep l := Nat.succ_le_succ (depAll_map E l)
  eqv l m := eqvAll_map E l m
  nos l x h := by cases h
theorem EnOk.pair (E : EnOk e k) (F : EnOk f m) (h : m ≤ k := by decide) : EnOk (fun p : α × β => D.tup [e p.1, f p.2]) (k + 1) where
  isp p := by
    show (isPy (e p.1) && (isPy (f p.2) && true)) = true
    rw [E.isp, F.isp]; rfl
  lay p := by
    show ((py (e p.1)).canLay0 && ((py (f p.2)).canLay0 && true)) = true
    rw [E.lay, F.lay]; rfl
  dep p := by
    show max ((py (e p.1)).depth) (max ((py (f p.2)).depth) 0) + 1 ≤ k + 1
    have := E.dep p.1
    have := F.dep p.2
    omega
  eqv p q := by
    show (PyData.eqv (py (e p.1)) (py (e q.1)) && (PyData.eqv (py (f p.2)) (py (f q.2)) && true)) = true ↔ _
    rw [Bool.and_true, Bool.and_eq_true, E.eqv, F.eqv, Prod.ext_iff]
  nos p x h := by cases h
end
theorem en_int : EnOk D.int 0 where
  isp _ := rfl
  lay _ := rfl
  dep _ := Nat.le_refl _
  eqv a b := by show (a == b) = true ↔ _; simp
  nos a x h := by cases h
theorem en_nat : EnOk (fun n : Nat => D.int n) 0 where
  isp _ := rfl
  lay _ := rfl
  dep _ := Nat.le_refl _
  eqv a b := by show ((a : Int) == (b : Int)) = true ↔ _; simp; omega
  nos a x h := by cases h
theorem en_bl : EnOk D.bl 0 where
  isp _ := rfl
  lay _ := rfl
  dep _ := Nat.le_refl _
  eqv a b := by show (a == b) = true ↔ _; simp
  nos a x h := by cases h
theorem en_rest : EnOk eRest 1 where
  isp r := by obtain ⟨s, g⟩ := r; cases g <;> rfl
  lay r := by obtain ⟨s, g⟩ := r; cases g <;> rfl
  dep r := by obtain ⟨s, g⟩ := r; cases g <;> exact Nat.le_refl _
  eqv a b := by
    obtain ⟨s, g⟩ := a
    obtain ⟨t, h⟩ := b
    cases g <;> cases h <;> simp [eRest, py, pyL, PyData.eqv, PyData.eqvAll] <;> omega
  nos a x h := by obtain ⟨s, g⟩ := a; cases g <;> cases h
@[simp] theorem q_bne (a b : Bool) : gNe (.bl a) (.bl b) = some (.bl (!decide (a = b))) := en_bl.ne (by decide) a b
@[simp] theorem q_beq (a b : Bool) : gEq (.bl a) (.bl b) = some (.bl (decide (a = b))) := en_bl.eq (by decide) a b
@[simp] theorem q_ine (a b : Int) : gNe (.int a) (.int b) = some (.bl (!decide (a = b))) := en_int.ne (by decide) a b
@[simp] theorem q_req (a b : Rest) : gEq (eRest a) (eRest b) = some (.bl (decide (a = b))) := en_rest.eq (by decide) a b
/-! ### the step -/
def stepR (R : Rcv) (rest : Rest) (step : Int) : Bool × Rest := match ((R[rest.1]?).getD []).find? (fun row => counts row rest.2 step) with
  | none => (false, rest)
  | some row => match row.deed with
    | .take => (true, (row.behind, none))
    | .keep => (false, (row.behind, some step))
    | .drop => (false, (row.behind, none))
    | .leave => (false, (row.behind, rest.2))
theorem find_of {α : Type} {p : α → Bool} : ∀ {l : List α} {i : Nat}, l.findIdx? p = some i → ∃ x, l[i]? = some x ∧ l.find? p = some x
  | [], _, h => by cases h
  | x :: l, i, h => by
    rw [List.findIdx?_cons] at h
    by_cases hp : p x = true
    · rw [if_pos hp] at h
      cases h
      exact ⟨x, rfl, by rw [List.find?_cons, hp]⟩
    · rw [if_neg hp] at h
      cases q : l.findIdx? p with
      | none => rw [q] at h; cases h
      | some j =>
        rw [q] at h
        cases h
        obtain ⟨y, h1, h2⟩ := find_of q
        exact ⟨y, h1, by rw [List.find?_cons, Bool.eq_false_iff.mpr hp]; exact h2⟩
def eStep (p : Bool × Rest) : D := .tup [.bl p.1, eRest p.2]
theorem st_kt : (Str.ofString "keep" = Str.ofString "take") = False := eq_false (by decide)
theorem st_lt : (Str.ofString "leave" = Str.ofString "take") = False := eq_false (by decide)
theorem st_dt : (Str.ofString "drop" = Str.ofString "take") = False := eq_false (by decide)
theorem st_lk : (Str.ofString "leave" = Str.ofString "keep") = False := eq_false (by decide)
theorem st_dk : (Str.ofString "drop" = Str.ofString "keep") = False := eq_false (by decide)
theorem st_ld : (Str.ofString "leave" = Str.ofString "drop") = False := eq_false (by decide)
theorem szl2 : (1 + 1 ≤ sizeLine) = True := eq_true (sz _ (by omega))
theorem szl1 : (1 ≤ sizeLine) = True := eq_true (sz _ (by omega))
theorem ix_Rc {R : Rcv} {s : Nat} {rows : List Row} (h : R[s]? = some rows) : gIx (eRc R) (.int s) = some (eSt rows) := by
  show atI (R.map eSt) (s : Int) = _
  rw [atI_nat, List.getElem?_map, h]; rfl
theorem ix_St {rows : List Row} {i : Nat} {row : Row} (h : rows[i]? = some row) : gIx (eSt rows) (.int i) = some (eRow row) := by
  show atI (rows.map eRow) (i : Int) = _
  rw [atI_nat, List.getElem?_map, h]; rfl
@[simp] theorem sl_Row2 (row : Row) : gSl (some 2) none (eRow row) = some (.tup [eDd row.deed, .int row.behind]) := by
  show some (D.tup (cutD _ _ _)) = _
  rw [cutD_2]; rfl
def eGap : Option Int → List D
  | none => []
  | some g => [.int g]
@[simp] theorem eGap_n : eGap none = [] := rfl
@[simp] theorem eGap_s (g : Int) : eGap (some g) = [.int g] := rfl
@[simp] theorem sl_Rest1 (r : Rest) : gSl (some 1) none (eRest r) = some (.tup (eGap r.2)) := by
  obtain ⟨s, g⟩ := r
  cases g
  · show some (D.tup (cutD _ _ _)) = _
    rw [cutD_1]; rfl
  · show some (D.tup (cutD _ _ _)) = _
    rw [cutD_1]; rfl
theorem rest_eq (s : Nat) (g : Option Int) : eRest (s, g) = .tup (.int s :: eGap g) := by cases g <;> rfl
theorem gap_len (g : Option Int) : (eGap g).length ≤ 1 := by cases g <;> simp [eGap]
theorem p_step (R : Rcv) (rest : Rest) (step : Int) (h : rest.1 < R.length) : F_step_from [eRc R, eRest rest, .int step] = some (eStep (stepR R rest step)) := by
  have hc := p_counting R rest step h
  unfold stepR
  unfold find at hc
  rw [List.getElem?_eq_getElem h, Option.getD_some] at hc ⊢
  have e0 : gIx (eRest rest) (.int 0) = some (.int rest.1) := eRest_0 rest []
  have e1 := ix_Rc (R := R) (s := rest.1) (List.getElem?_eq_getElem h)
  cases q : R[rest.1].findIdx? (fun row => counts row rest.2 step) with
  | none =>
    have q2 : R[rest.1].find? (fun row => counts row rest.2 step) = none := by
      rw [List.findIdx?_eq_none_iff] at q
      rw [List.find?_eq_none]
      exact fun x hx z => by rw [q x hx] at z; cases z
    rw [q] at hc
    rw [q2]
    simp [F_step_from, S_step_from, startD, hc, eStep]
  | some i =>
    obtain ⟨row, h1, h2⟩ := find_of q
    rw [q] at hc
    rw [h2]
    have e2 := ix_St h1
    obtain ⟨ah, af, dd, bh⟩ := row
    have gl : (1 + (eGap rest.2).length ≤ sizeLine) = True := eq_true (sz _ (by have := gap_len rest.2; omega))
    cases dd <;> simp [F_step_from, S_step_from, startD, hc, eStep, e0, e1, e2, eDd, st_kt, st_lt, st_dt, st_lk, st_dk, st_ld, gl, rest_eq]
/-! ### the steps -/
def ST : List Int := (List.range 27).map fun i => ((i : Nat) : Int) - 13
theorem p_all_steps : F_all_steps [] = some (.lst (ST.map D.int)) := by
  have h : rgOk (-13) 14 = true := by decide
  have e : rgD (-13) 14 = ST.map D.int := by
    show (List.range (14 - (-13) : Int).toNat).map _ = ((List.range 27).map _).map _
    rw [List.map_map]
    show (List.range 27).map _ = _
    refine List.map_congr_left fun i _ => ?_
    show D.int _ = D.int _
    congr 1
  simp [F_all_steps, S_all_steps, startD, h, e]
theorem mem_ST (s : Int) : s ∈ ST ↔ -13 ≤ s ∧ s ≤ 13 := by
  unfold ST
  rw [List.mem_map]
  constructor
  · rintro ⟨i, hi, rfl⟩
    rw [List.mem_range] at hi
    omega
  · rintro ⟨h1, h2⟩
    exact ⟨(s + 13).toNat, by rw [List.mem_range]; omega, by omega⟩
theorem ST_len : ST.length = 27 := by unfold ST; simp
theorem ST_get (i : Nat) (h : i < 27) : ST[i]? = some ((i : Int) - 13) := by
  unfold ST
  rw [List.getElem?_map, List.getElem?_range h]
  rfl
end DL
end
section
set_option Elab.async false
set_option linter.all false
set_option maxRecDepth 100000
set_option autoImplicit false
/-! The plain law: rules for loops; the receivers that are drawn; the rests. -/
namespace DL
open PySem PySem.Spec
open PyProof.Rows hiding St
open L2
theorem sFor_rule {α : Type} (enc : α → D) {g : GD} {b : SD} (I : List α → DE → Prop) (QR : D → Prop)
    (h : ∀ x r ρ, I (x :: r) ρ → ∃ ρ1, g (enc x) ρ = some ρ1 ∧ ((∃ ρ2, b ρ1 = some (.nx ρ2) ∧ I r ρ2) ∨ ∃ d ρ2, b ρ1 = some (.rt d ρ2) ∧ QR d)) :
    ∀ l ρ, I l ρ → (∃ ρ', sForL g b (l.map enc) ρ = some (.nx ρ') ∧ I [] ρ') ∨ ∃ d ρ', sForL g b (l.map enc) ρ = some (.rt d ρ') ∧ QR d
  | [], ρ, hI => .inl ⟨ρ, rfl, hI⟩
  | x :: r, ρ, hI => by
    obtain ⟨ρ1, e1, q⟩ := h x r ρ hI
    rw [List.map_cons, sFL_cons, e1, Option.bind_some]
    rcases q with ⟨ρ2, e2, h2⟩ | ⟨d, ρ2, e2, h2⟩
    · rw [e2]
      exact sFor_rule enc I QR h r ρ2 h2
    · rw [e2]
      exact .inr ⟨d, ρ2, rfl, h2⟩
theorem sFor_nx {α : Type} (enc : α → D) {g : GD} {b : SD} (I : List α → DE → Prop)
    (h : ∀ x r ρ, I (x :: r) ρ → ∃ ρ1 ρ2, g (enc x) ρ = some ρ1 ∧ b ρ1 = some (.nx ρ2) ∧ I r ρ2) (l : List α) (ρ : DE) (hI : I l ρ) : ∃ ρ', sForL g b (l.map enc) ρ = some (.nx ρ') ∧ I [] ρ' := by
  rcases sFor_rule enc I (fun _ => False) (fun x r ρ hI => let ⟨ρ1, ρ2, e1, e2, e3⟩ := h x r ρ hI; ⟨ρ1, e1, .inl ⟨ρ2, e2, e3⟩⟩) l ρ hI with q | ⟨_, _, _, q⟩
  · exact q
  · exact q.elim
theorem sWh_rule {c : BD} {b : SD} (I : Nat → DE → Prop) (QN : DE → Prop) (QR : D → Prop)
    (h : ∀ m ρ, I m ρ → (c ρ = some (false, ρ) ∧ QN ρ) ∨ (c ρ = some (true, ρ) ∧ ((∃ m' ρ2, m' < m ∧ b ρ = some (.nx ρ2) ∧ I m' ρ2) ∨ ∃ d ρ2, b ρ = some (.rt d ρ2) ∧ QR d))) :
    ∀ n m ρ, I m ρ → m < n → (∃ ρ', sWh c b n ρ = some (.nx ρ') ∧ QN ρ') ∨ ∃ d ρ', sWh c b n ρ = some (.rt d ρ') ∧ QR d
  | 0, m, ρ, _, hm => absurd hm (Nat.not_lt_zero _)
  | n + 1, m, ρ, hI, hm => by
    show (∃ ρ', (match c ρ with
      | some (true, ρ1) => match b ρ1 with
        | some (.nx ρ2) => sWh c b n ρ2
        | r => r
      | some (false, ρ1) => some (.nx ρ1)
      | none => none) = some (.nx ρ') ∧ QN ρ') ∨ ∃ d ρ', (match c ρ with
      | some (true, ρ1) => match b ρ1 with
        | some (.nx ρ2) => sWh c b n ρ2
        | r => r
      | some (false, ρ1) => some (.nx ρ1)
      | none => none) = some (.rt d ρ') ∧ QR d
    rcases h m ρ hI with ⟨e, q⟩ | ⟨e, q⟩
    · rw [e]
      exact .inl ⟨ρ, rfl, q⟩
    · rw [e]
      rcases q with ⟨m', ρ2, hlt, e2, h2⟩ | ⟨d, ρ2, e2, h2⟩
      · simp only [e2]
        exact sWh_rule I QN QR h n m' ρ2 h2 (by omega)
      · simp only [e2]
        exact .inr ⟨d, ρ2, rfl, h2⟩
theorem sWh_nx {c : BD} {b : SD} (I : Nat → DE → Prop) (QN : DE → Prop)
    (h : ∀ m ρ, I m ρ → (c ρ = some (false, ρ) ∧ QN ρ) ∨ (c ρ = some (true, ρ) ∧ ∃ m' ρ2, m' < m ∧ b ρ = some (.nx ρ2) ∧ I m' ρ2)) (n m : Nat) (ρ : DE) (hI : I m ρ) (hm : m < n) : ∃ ρ', sWh c b n ρ = some (.nx ρ') ∧ QN ρ' := by
  rcases sWh_rule I QN (fun _ => False) (fun m ρ hI => (h m ρ hI).imp id fun ⟨e, q⟩ => ⟨e, .inl q⟩) n m ρ hI hm with q | ⟨_, _, _, q⟩
  · exact q
  · exact q.elim
/-- a comprehension that changes nothing -/
theorem lc_fix {α : Type} (enc : α → D) {vs : List Nat} {g : GD} {c : BD} {f : TD} {ρ0 : DE} (cond : α → Bool) (val : α → D) : ∀ (l : List α),
    (∀ x ∈ l, ∃ ρ1, g (enc x) ρ0 = some ρ1 ∧ c ρ1 = some (cond x, ρ1) ∧ (cond x = true → f ρ1 = some (val x, ρ1)) ∧ wipeD ρ1 vs = ρ0) →
    lcL vs g c f (l.map enc) ρ0 = some ((l.filter cond).map val, ρ0)
  | [], _ => rfl
  | x :: l, h => by
    obtain ⟨ρ1, e1, e2, e3, e4⟩ := h x (by simp)
    have ih := lc_fix enc cond val l fun y hy => h y (by simp [hy])
    show (g (enc x) ρ0).bind _ = _
    rw [e1, Option.bind_some, e2, Option.bind_some]
    by_cases hc : cond x = true
    · rw [if_pos hc, e3 hc, Option.bind_some, e4, ih, List.filter_cons, if_pos hc]
      rfl
    · rw [if_neg hc, e4, ih, List.filter_cons, if_neg hc]
theorem lc_all {α : Type} (enc : α → D) {vs : List Nat} {g : GD} {f : TD} {ρ0 : DE} (val : α → D) (l : List α)
    (h : ∀ x ∈ l, ∃ ρ1, g (enc x) ρ0 = some ρ1 ∧ f ρ1 = some (val x, ρ1) ∧ wipeD ρ1 vs = ρ0) : lcL vs g bYes f (l.map enc) ρ0 = some (l.map val, ρ0) := by
  have q := lc_fix enc (vs := vs) (g := g) (c := bYes) (f := f) (ρ0 := ρ0) (fun _ => true) val l fun x hx => let ⟨ρ1, e1, e2, e3⟩ := h x hx; ⟨ρ1, e1, rfl, fun _ => e2, e3⟩
  rw [q]
  congr 2
  rw [List.filter_eq_self.mpr fun _ _ => rfl]
@[simp] theorem mixD_nil (a b : DE) : mixD [] a b = a := rfl
theorem nodup_len {α : Type} [DecidableEq α] : ∀ (l m : List α), l.Nodup → (∀ x ∈ l, x ∈ m) → l.length ≤ m.length
  | [], m, _, _ => Nat.zero_le _
  | x :: l, m, h, s => by
    rw [List.nodup_cons] at h
    have hx := s x (by simp)
    have := nodup_len l (m.erase x) h.2 fun y hy => (List.mem_erase_of_ne fun e => h.1 (by rw [← e]; exact hy)).mpr (s y (by simp [hy]))
    rw [List.length_erase_of_mem hx] at this
    have h0 : 0 < m.length := List.length_pos_of_mem hx
    rw [List.length_cons]
    omega
/-! ### receivers -/
def rngOk (r : Rng) : Prop := (∀ x, r.1 = some x → -6 ≤ x ∧ x ≤ 6) ∧ ∀ x, r.2 = some x → -6 ≤ x ∧ x ≤ 6
structure RowOk (n : Nat) (r : Row) : Prop where
  bh : r.behind < n
  ah : rngOk r.ahead
  af : ∀ a, r.after = some a → rngOk a
  kp : r.deed = .keep → (∃ a b, r.ahead = (some a, some b))
structure Good (R : Rcv) : Prop where
  pos : 0 < R.length
  le : R.length ≤ 4
  few : ∀ rows ∈ R, rows.length ≤ 6
  row : ∀ rows ∈ R, ∀ r ∈ rows, RowOk R.length r
def RO (n : Nat) (r : Rest) : Prop := r.1 < n ∧ ∀ g, r.2 = some g → -6 ≤ g ∧ g ≤ 6
theorem lies_keep {s a b : Int} (h : lies s (some a, some b) = true) : a ≤ s ∧ s ≤ b := by
  unfold lies at h
  simp at h
  exact h
theorem stepR_ok {R : Rcv} (G : Good R) {r : Rest} (hr : RO R.length r) (s : Int) : RO R.length (stepR R r s).2 := by
  have h1 := hr.1
  unfold stepR
  rw [List.getElem?_eq_getElem h1, Option.getD_some]
  cases q : R[r.1].find? (fun row => counts row r.2 s) with
  | none => exact hr
  | some row =>
    have hm := List.mem_of_find?_eq_some q
    have hk := G.row _ (List.getElem_mem h1) row hm
    have hc := List.find?_some q
    obtain ⟨ah, af, dd, bh⟩ := row
    cases dd with
    | take => exact ⟨hk.bh, fun g e => nomatch e⟩
    | keep =>
      refine ⟨hk.bh, fun g e => ?_⟩
      cases e
      obtain ⟨a, b, ab⟩ := hk.kp rfl
      simp only [counts, Bool.and_eq_true] at hc
      have hl : lies s ah = true := hc.1
      have ab : ah = (some a, some b) := ab
      rw [ab] at hl
      have l := lies_keep hl
      have h1 := hk.ah.1 a (by show ah.1 = _; rw [ab])
      have h2 := hk.ah.2 b (by show ah.2 = _; rw [ab])
      omega
    | leave => exact ⟨hk.bh, hr.2⟩
    | drop => exact ⟨hk.bh, fun g e => nomatch e⟩
def gaps : List (Option Int) := none :: (List.range 13).map fun i : Nat => some ((i : Int) - 6)
def univR : List Rest := (List.range 4).flatMap fun s => gaps.map fun g => (s, g)
theorem mem_univR {n : Nat} (hn : n ≤ 4) {r : Rest} (h : RO n r) : r ∈ univR := by
  obtain ⟨s, g⟩ := r
  unfold univR
  rw [List.mem_flatMap]
  refine ⟨s, by rw [List.mem_range]; have := h.1; simp at this; omega, ?_⟩
  rw [List.mem_map]
  refine ⟨g, ?_, rfl⟩
  unfold gaps
  cases g with
  | none => simp
  | some g =>
    have := h.2 g rfl
    rw [List.mem_cons, List.mem_map]
    exact .inr ⟨(g + 6).toNat, by rw [List.mem_range]; omega, by congr 1; omega⟩
theorem univR_len : univR.length = 56 := by decide +kernel
theorem rests_len {R : Rcv} (G : Good R) {L : List Rest} (nd : L.Nodup) (h : ∀ r ∈ L, RO R.length r) : L.length ≤ 56 := by
  rw [← univR_len]
  exact nodup_len _ _ nd fun r hr => mem_univR G.le (h r hr)
end DL
end
section
set_option Elab.async false
set_option linter.all false
set_option maxRecDepth 100000
set_option autoImplicit false
/-! The plain law: the rests that are met. -/
namespace DL
open PySem PySem.Spec
open PyProof.Rows hiding St
open L2
theorem loopPl {α : Type} [DecidableEq α] {e : α → D} {k : Nat} (E : EnOk e k) (hk : k ≤ 60) (L : D) (a : α) : ∀ (l : List α) (i : Nat) (x2 x3 : Option D), a ∈ l →
    ∃ ρ, sForL (gT 2 (glC (gN 2) (glC (gN 3) glN))) (sIf (dT (dOp gEq (dV 3) (dV 1))) (sRet (dV 2)) sNil) (((l.map e).zipIdx i).map fun p => D.tup [.int (p.2 : Nat), p.1]) [some L, some (e a), x2, x3] = some (.rt (.int ((i + l.idxOf a : Nat) : Int)) ρ)
  | [], _, _, _, h => by cases h
  | b :: l, i, x2, x3, h => by
    rw [List.map_cons, List.zipIdx_cons, List.map_cons, sFL_cons]
    by_cases hb : b = a
    · subst hb
      refine ⟨[some L, some (e b), some (.int i), some (e b)], ?_⟩
      simp [E.eq hk]
    · have ha : a ∈ l := by
        rcases List.mem_cons.mp h with z | z
        · exact absurd z.symm hb
        · exact z
      obtain ⟨ρ, q⟩ := loopPl E hk L a l (i + 1) (some (.int (i : Nat))) (some (e b)) ha
      refine ⟨ρ, ?_⟩
      have hi : (b :: l).idxOf a = l.idxOf a + 1 := by rw [List.idxOf_cons, show (b == a) = false from beq_eq_false_iff_ne.mpr hb]; rfl
      rw [hi, show i + (l.idxOf a + 1) = i + 1 + l.idxOf a by omega, ← q]
      simp [E.eq hk, hb]
def plc {α : Type} [DecidableEq α] (l : List α) (a : α) : Nat := l.idxOf a
theorem plc_lt {α : Type} [DecidableEq α] {l : List α} {a : α} (h : a ∈ l) : plc l a < l.length := List.idxOf_lt_length_of_mem h
theorem plc_get {α : Type} [DecidableEq α] {l : List α} {a : α} (h : a ∈ l) : l[plc l a]? = some a := by
  have q := List.idxOf_lt_length_of_mem h
  show l[l.idxOf a]? = some a
  rw [List.getElem?_eq_getElem q, List.getElem_idxOf q]
theorem nodup_at {α : Type} {l : List α} (nd : l.Nodup) {i j : Nat} {a : α} (h1 : l[i]? = some a) (h2 : l[j]? = some a) : i = j :=
  (List.getElem?_inj (List.getElem?_eq_some_iff.mp h1).1 nd).mp (h1.trans h2.symm)
theorem plc_at {α : Type} [DecidableEq α] {l : List α} (nd : l.Nodup) {i : Nat} {a : α} (h : l[i]? = some a) : plc l a = i := nodup_at nd (plc_get (List.mem_of_getElem? h)) h
theorem p_place {α : Type} [DecidableEq α] {e : α → D} {k : Nat} (E : EnOk e k) (hk : k ≤ 60) {l : List α} {a : α} (h : a ∈ l) : F_place_of [.lst (l.map e), e a] = some (.int ((plc l a : Nat) : Int)) := by
  unfold plc
  obtain ⟨ρ, q⟩ := loopPl E hk (.lst (l.map e)) a l 0 none none h
  rw [Nat.zero_add] at q
  simp [F_place_of, S_place_of, startD, enumD]
  rw [q]
/-! ### rests_met -/
structure RMet (R : Rcv) (L : List Rest) : Prop where
  hd : L[0]? = some (0, none)
  nd : L.Nodup
  ro : ∀ r ∈ L, RO R.length r
structure RestsOf (R : Rcv) (L : List Rest) : Prop extends RMet R L where
  cl : ∀ r ∈ L, ∀ s ∈ ST, (stepR R r s).2 ∈ L
theorem RMet.len {R : Rcv} (G : Good R) {L : List Rest} (h : RMet R L) : L.length ≤ 56 := rests_len G h.nd h.ro
theorem RMet.add {R : Rcv} {L : List Rest} (h : RMet R L) {r : Rest} (hr : RO R.length r) (hn : r ∉ L) : RMet R (L ++ [r]) where
  hd := by
    have h0 := h.hd
    cases L with
    | nil => cases h0
    | cons x l => exact h0
  nd := by
    rw [List.nodup_append]
    refine ⟨h.nd, by simp, fun a ha b hb => ?_⟩
    simp at hb
    subst hb
    exact fun e => hn (by rw [← e]; exact ha)
  ro x hx := by
    rcases List.mem_append.mp hx with z | z
    · exact h.ro x z
    · simp at z; subst z; exact hr
theorem notInO_rest (r : Rest) (i : Nat) (f : TD) (ρ ρ' : DE) (L : List Rest) (hf : f ρ = some (eRest r, ρ')) (hi : ρ'[i]? = some (some (.lst (L.map eRest)))) : dNotInO f i ρ = some (.bl (!decide (r ∈ L)), ρ') := by
  rw [e_dNotInO, hf, Option.bind_some]
  simp only [hi]
  rw [en_rest.ok (by decide), en_rest.lst_ok (by decide), inL_map en_rest]
  simp
theorem p_rests {R : Rcv} (G : Good R) : ∃ L, F_rests_met [eRc R] = some (.lst (L.map eRest)) ∧ RestsOf R L := by
  have w := sWh_nx (c := dT (dOp gLt (dV 2) (dOwn 1 kLen)))
    (b := sSeq (sFor (lL (dCal 0 F_all_steps aNil)) (gN 3) (sSeq (sSet 4 (dOp gIx (dCal 3 F_step_from (aCons (dV 0) (aCons (dO 1 (dV 2) gIx) (aCons (dV 3) aNil)))) (dC (.int 1)))) (sIf (dT (dNotInO (dV 4) 1)) (sApp 1 (dV 4)) sNil))) (sAug 2 (dC (.int 1))))
    (I := fun m ρ => ∃ (L : List Rest) (k : Nat) (x3 x4 : Option D), ρ = [some (eRc R), some (.lst (L.map eRest)), some (.int (k : Nat)), x3, x4] ∧ RMet R L ∧ k ≤ L.length ∧ (∀ (j : Nat) (r : Rest), j < k → L[j]? = some r → ∀ s ∈ ST, (stepR R r s).2 ∈ L) ∧ m + k = 56)
    (QN := fun ρ => ∃ (L : List Rest) (x2 x3 x4 : Option D), ρ = [some (eRc R), some (.lst (L.map eRest)), x2, x3, x4] ∧ RestsOf R L) ?_ FU 56 [some (eRc R), some (.lst ([(0, none)].map eRest)), some (.int 0), none, none] ?_ (by decide)
  · obtain ⟨ρ', e, L, x2, x3, x4, rfl, hL⟩ := w
    refine ⟨L, ?_, hL⟩
    simp [eRest] at e
    simp [F_rests_met, S_rests_met, startD, e]
  · rintro m ρ ⟨L, k, x3, x4, rfl, hM, hk, hc, hm⟩
    by_cases hlt : k < L.length
    · refine .inr ⟨by simp; omega, ?_⟩
      have hget : L[k]? = some L[k] := List.getElem?_eq_getElem hlt
      have hro := hM.ro L[k] (List.getElem_mem hlt)
      have f := sFor_nx D.int (g := gN 3) (b := (sSeq (sSet 4 (dOp gIx (dCal 3 F_step_from (aCons (dV 0) (aCons (dO 1 (dV 2) gIx) (aCons (dV 3) aNil)))) (dC (.int 1)))) (sIf (dT (dNotInO (dV 4) 1)) (sApp 1 (dV 4)) sNil)))
        (fun l ρ => ∃ (L' : List Rest) (x3 x4 : Option D) (pre : List Int), ρ = [some (eRc R), some (.lst (L'.map eRest)), some (.int (k : Nat)), x3, x4] ∧ RMet R L' ∧ (∀ (j : Nat) (r : Rest), L[j]? = some r → L'[j]? = some r) ∧ ST = pre ++ l ∧ ∀ s ∈ pre, (stepR R L[k] s).2 ∈ L') ?_ ST _ ⟨L, x3, x4, [], rfl, hM, fun _ _ h => h, rfl, by simp⟩
      · obtain ⟨ρ', e, L', y3, y4, pre, rfl, hM', hext, hpre, hcl⟩ := f
        rw [List.append_nil] at hpre
        subst hpre
        have hle : L.length ≤ L'.length := by
          have := hext (L.length - 1) L[L.length - 1] (List.getElem?_eq_getElem (by omega))
          have := (List.getElem?_eq_some_iff.mp this).1
          omega
        refine ⟨m - 1, [some (eRc R), some (.lst (L'.map eRest)), some (.int ((k + 1 : Nat) : Int)), y3, y4], ?_, ?_, L', k + 1, y3, y4, rfl, hM', by omega, ?_, ?_⟩
        · have := hM.len G; omega
        · simp [p_all_steps]
          rw [e]
          simp
        · intro j r hj hr s hs
          by_cases h1 : j < k
          · have hlt' : j < L.length := by omega
            have h2 := hext j L[j] (List.getElem?_eq_getElem hlt')
            rw [hr] at h2
            cases h2
            have h3 := hc j L[j] h1 (List.getElem?_eq_getElem hlt') s hs
            obtain ⟨i, hi⟩ := List.getElem?_of_mem h3
            exact List.mem_of_getElem? (hext i _ hi)
          · have : j = k := by omega
            subst this
            have h2 := hext j L[j] hget
            rw [hr] at h2
            cases h2
            exact hcl s hs
        · have := hM.len G; omega
      · rintro s l ρ ⟨L', y3, y4, pre, rfl, hM', hext, hpre, hcl⟩
        have hg := hext k L[k] hget
        have hst := p_step R L[k] s hro.1
        have hro' := stepR_ok G hro s
        have hix : atI (L'.map eRest) (k : Int) = some (eRest L[k]) := by rw [atI_nat, List.getElem?_map, hg]; rfl
        have hsz : ((L'.map eRest).length < sizeLine) = True := eq_true (sz' _ (by have := hM'.len G; rw [List.length_map]; omega))
        have hnot := notInO_rest (stepR R L[k] s).2 1 (dV 4) [some (eRc R), some (.lst (L'.map eRest)), some (.int (k : Nat)), some (.int s), some (eRest (stepR R L[k] s).2)] [some (eRc R), some (.lst (L'.map eRest)), some (.int (k : Nat)), some (.int s), some (eRest (stepR R L[k] s).2)] L' (by simp) rfl
        refine ⟨[some (eRc R), some (.lst (L'.map eRest)), some (.int (k : Nat)), some (.int s), y4], ?_⟩
        by_cases hin : (stepR R L[k] s).2 ∈ L'
        · refine ⟨[some (eRc R), some (.lst (L'.map eRest)), some (.int (k : Nat)), some (.int s), some (eRest (stepR R L[k] s).2)], by simp, ?_, L', _, _, pre ++ [s], rfl, hM', hext, by simp [hpre], ?_⟩
          · simp [hix, hst, eStep, -e_dNotInO, hnot, hin]
          · intro t ht
            rcases List.mem_append.mp ht with z | z
            · exact hcl t z
            · simp at z; subst z; exact hin
        · refine ⟨[some (eRc R), some (.lst ((L' ++ [(stepR R L[k] s).2]).map eRest)), some (.int (k : Nat)), some (.int s), some (eRest (stepR R L[k] s).2)], by simp, ?_, L' ++ [(stepR R L[k] s).2], _, _, pre ++ [s], rfl, hM'.add hro' hin, ?_, by simp [hpre], ?_⟩
          · rw [List.length_map] at hsz
            simp [hix, hst, eStep, -e_dNotInO, hnot, hin, hsz]
          · intro j r hr
            have h2 := hext j r hr
            rw [List.getElem?_append_left (List.getElem?_eq_some_iff.mp h2).1]
            exact h2
          · intro t ht
            rcases List.mem_append.mp ht with z | z
            · exact List.mem_append_left _ (hcl t z)
            · simp at z; subst z; simp
    · have hkl : k = L.length := by omega
      refine .inl ⟨by simp; omega, L, _, x3, x4, rfl, { toRMet := hM, cl := fun r hr s hs => ?_ }⟩
      obtain ⟨j, hj⟩ := List.getElem?_of_mem hr
      exact hc j r (by have := (List.getElem?_eq_some_iff.mp hj).1; omega) hj s hs
  · refine ⟨[(0, none)], 0, none, none, rfl, ⟨rfl, by simp, ?_⟩, by simp, fun j r h => by omega, rfl⟩
    intro r hr
    simp at hr
    subst hr
    exact ⟨G.pos, fun g e => nomatch e⟩
end DL
end
section
set_option Elab.async false
set_option linter.all false
set_option maxRecDepth 100000
set_option autoImplicit false
/-! The plain law: the table. -/
namespace DL
open PySem PySem.Spec
open PyProof.Rows hiding St
open L2
abbrev BN := Bool × Nat
def eBN (p : BN) : D := .tup [.bl p.1, .int (p.2 : Nat)]
def eLR (row : List BN) : D := .lst (row.map eBN)
theorem en_bn : EnOk eBN 1 := en_bl.pair en_nat
def rowOf (R : Rcv) (L : List Rest) (r : Rest) : List BN := ST.map fun s => ((stepR R r s).1, plc L (stepR R r s).2)
theorem p_table {R : Rcv} (G : Good R) : ∃ L, RestsOf R L ∧ F_table_of [eRc R] = some (.lst ((L.map (rowOf R L)).map eLR)) := by
  obtain ⟨L, eL, hL⟩ := p_rests G
  refine ⟨L, hL, ?_⟩
  have f := sFor_nx eRest (g := gN 3) (b := (sSeq (sSet 4 (dLc [2] [5] (lL (dCal 0 F_all_steps aNil)) (gN 5) bYes (dCal 3 F_step_from (aCons (dV 0) (aCons (dV 3) (aCons (dV 5) aNil))))))
    (sApp 2 (dLc [2] [6, 7] (lL (dV 4)) (gT 2 (glC (gN 6) (glC (gN 7) glN))) bYes (dTup (aCons (dV 6) (aCons (dCal 2 F_place_of (aCons (dV 1) (aCons (dV 7) aNil))) aNil)))))))
    (fun l ρ => ∃ (pre : List Rest) (x3 x4 : Option D), L = pre ++ l ∧ ρ = [some (eRc R), some (.lst (L.map eRest)), some (.lst ((pre.map (rowOf R L)).map eLR)), x3, x4, none, none, none]) ?_ L
    [some (eRc R), some (.lst (L.map eRest)), some (.lst []), none, none, none, none, none] ⟨[], none, none, rfl, rfl⟩
  · obtain ⟨ρ', e, pre, x3, x4, hp, rfl⟩ := f
    rw [List.append_nil] at hp
    subst hp
    simp [F_table_of, S_table_of, startD, eL]
    rw [e]
    simp
  · rintro r l ρ ⟨pre, x3, x4, hp, rfl⟩
    have hr : r ∈ L := by rw [hp]; simp
    have hro := hL.ro r hr
    have c1 : ∀ W : Option D, lcL [5] (gN 5) bYes (dCal 3 F_step_from (aCons (dV 0) (aCons (dV 3) (aCons (dV 5) aNil)))) (ST.map D.int) [some (eRc R), some (.lst (L.map eRest)), W, some (eRest r), x4, none, none, none] =
        some (ST.map fun s => eStep (stepR R r s), [some (eRc R), some (.lst (L.map eRest)), W, some (eRest r), x4, none, none, none]) := fun W => by
      refine lc_all D.int (fun s => eStep (stepR R r s)) ST fun s hs => ⟨[some (eRc R), some (.lst (L.map eRest)), W, some (eRest r), x4, some (.int s), none, none], by simp, ?_, rfl⟩
      simp [p_step R r s hro.1]
    have c2 : ∀ W X : Option D, lcL [6, 7] (gT 2 (glC (gN 6) (glC (gN 7) glN))) bYes (dTup (aCons (dV 6) (aCons (dCal 2 F_place_of (aCons (dV 1) (aCons (dV 7) aNil))) aNil))) (ST.map fun s => eStep (stepR R r s)) [some (eRc R), some (.lst (L.map eRest)), W, some (eRest r), X, none, none, none] =
        some (ST.map fun s => eBN ((stepR R r s).1, plc L (stepR R r s).2), [some (eRc R), some (.lst (L.map eRest)), W, some (eRest r), X, none, none, none]) := fun W X => by
      refine lc_all (fun s => eStep (stepR R r s)) (fun s => eBN ((stepR R r s).1, plc L (stepR R r s).2)) ST fun s hs => ⟨[some (eRc R), some (.lst (L.map eRest)), W, some (eRest r), X, none, some (.bl (stepR R r s).1), some (eRest (stepR R r s).2)], by simp [eStep], ?_, rfl⟩
      simp [p_place en_rest (by decide) (hL.cl r hr s hs), eBN]
    have hlen : pre.length ≤ 56 := by
      have := hL.toRMet.len G
      rw [hp, List.length_append] at this
      omega
    have s1 : (27 < sizeLine) = True := eq_true (sz' _ (by omega))
    have s2 : (pre.length < sizeLine) = True := eq_true (sz' _ (by omega))
    refine ⟨[some (eRc R), some (.lst (L.map eRest)), some (.lst ((pre.map (rowOf R L)).map eLR)), some (eRest r), x4, none, none, none],
      [some (eRc R), some (.lst (L.map eRest)), some (.lst (((pre ++ [r]).map (rowOf R L)).map eLR)), some (eRest r), some (.lst (ST.map fun s => eStep (stepR R r s))), none, none, none], by simp, ?_, pre ++ [r], _, _, by simp [hp], rfl⟩
    simp [p_all_steps, wipeD, ST_len, s1, c1, c2, mixD, s2, rowOf, eLR]
end DL
end
section
set_option Elab.async false
set_option linter.all false
set_option maxRecDepth 100000
set_option autoImplicit false
/-! The plain law: classes, a partition that is made finer until it stands. -/
namespace DL
open PySem PySem.Spec
open PyProof.Rows hiding St
open L2
/-! ### mathematics -/
def sg (C : List Nat) (row : List BN) : List BN := row.map fun p => (p.1, C.getD p.2 0)
def WT (T : List (List BN)) : Prop := ∀ row ∈ T, ∀ p ∈ row, p.2 < T.length
def Stable (T : List (List BN)) (C : List Nat) : Prop := ∀ (i j : Nat) (ri rj : List BN), T[i]? = some ri → T[j]? = some rj → C[i]? = C[j]? → sg C ri = sg C rj
def Ref (T : List (List BN)) (C : List Nat) : Prop := ∀ (i j : Nat) (ri rj : List BN), T[i]? = some ri → T[j]? = some rj → sg C ri = sg C rj → C[i]? = C[j]?
def Cnt (C : List Nat) (c : Nat) : Prop := (∀ x ∈ C, x < c) ∧ ∀ v, v < c → v ∈ C
theorem map_rel {α β γ : Type} {f : α → β} {g : α → γ} {f' : α → β} {g' : α → γ} : ∀ {l m : List α}, l.map f = m.map f' → (∀ p ∈ l, ∀ q ∈ m, f p = f' q → g p = g' q) → l.map g = m.map g'
  | [], [], _, _ => rfl
  | [], _ :: _, e, _ => by cases e
  | _ :: _, [], e, _ => by cases e
  | a :: l, b :: m, e, h => by
    rw [List.map_cons, List.map_cons, List.cons.injEq] at e
    rw [List.map_cons, List.map_cons, h a (by simp) b (by simp) e.1, map_rel e.2 fun p hp q hq => h p (by simp [hp]) q (by simp [hq])]
theorem count_eq {n c c' : Nat} {C C' : List Nat} (hl : C.length = n) (hl' : C'.length = n) (hC : Cnt C c) (hC' : Cnt C' c') (ref : ∀ i j : Nat, i < n → j < n → C'[i]? = C'[j]? → C[i]? = C[j]?) (hle : c' ≤ c) :
    ∀ i j : Nat, i < n → j < n → C[i]? = C[j]? → C'[i]? = C'[j]? := by
  intro i j hi hj e
  by_cases ne : C'[i]? = C'[j]?
  · exact ne
  · exfalso
    have hj' : j < C'.length := by omega
    have hi' : i < C'.length := by omega
    have vm : C'[j] ∈ C' := List.getElem_mem hj'
    have vlt := hC'.1 _ vm
    have len : (((List.range c').erase C'[j]).map fun v => C.getD (plc C' v) 0).length = c' - 1 := by
      rw [List.length_map, List.length_erase_of_mem (List.mem_range.mpr vlt), List.length_range]
    have sub : ∀ u ∈ List.range c, u ∈ ((List.range c').erase C'[j]).map fun v => C.getD (plc C' v) 0 := by
      intro u hu
      have hu' := hC.2 u (List.mem_range.mp hu)
      obtain ⟨k, hk⟩ := List.getElem?_of_mem hu'
      have hkn : k < n := by have := (List.getElem?_eq_some_iff.mp hk).1; omega
      have hk' : k < C'.length := by omega
      -- the class of a place is met at its first place
      have key : ∀ q : Nat, q < n → ∀ (hq : q < C'.length), C.getD (plc C' C'[q]) 0 = C.getD q 0 := fun q hq hq' => by
        have m : C'[q] ∈ C' := List.getElem_mem hq'
        have g := plc_get m
        have l := plc_lt m
        have r := ref (plc C' C'[q]) q (by omega) hq (by rw [g, List.getElem?_eq_getElem hq'])
        rw [List.getD_eq_getElem?_getD, List.getD_eq_getElem?_getD, r]
      rw [List.mem_map]
      by_cases hkj : C'[k] = C'[j]
      · refine ⟨C'[i], ?_, ?_⟩
        · refine (List.mem_erase_of_ne fun z => ne ?_).mpr (List.mem_range.mpr (hC'.1 _ (List.getElem_mem hi')))
          rw [List.getElem?_eq_getElem hi', List.getElem?_eq_getElem hj', z]
        · rw [key i hi hi']
          have r := ref k j hkn hj (by rw [List.getElem?_eq_getElem hk', List.getElem?_eq_getElem hj', hkj])
          rw [List.getD_eq_getElem?_getD, e, ← r, hk]
          rfl
      · refine ⟨C'[k], (List.mem_erase_of_ne hkj).mpr (List.mem_range.mpr (hC'.1 _ (List.getElem_mem hk'))), ?_⟩
        rw [key k hkn hk', List.getD_eq_getElem?_getD, hk]
        rfl
    have := nodup_len _ _ List.nodup_range sub
    rw [len, List.length_range] at this
    omega
def ddStep (k : List (List BN)) (s : List BN) : List (List BN) := if s ∈ k then k else k ++ [s]
theorem dd_fold : ∀ (l k : List (List BN)), k.Nodup → (l.foldl ddStep k).Nodup ∧ ∀ s, s ∈ l.foldl ddStep k ↔ s ∈ k ∨ s ∈ l
  | [], k, h => ⟨h, fun s => by simp⟩
  | x :: l, k, h => by
    have h' : (ddStep k x).Nodup ∧ ∀ s, s ∈ ddStep k x ↔ s ∈ k ∨ s = x := by
      unfold ddStep
      by_cases hx : x ∈ k
      · rw [if_pos hx]
        exact ⟨h, fun s => ⟨.inl, fun z => z.elim id fun e => by rw [e]; exact hx⟩⟩
      · rw [if_neg hx]
        refine ⟨List.nodup_append.mpr ⟨h, by simp, fun a ha b hb e => ?_⟩, fun s => by simp⟩
        simp at hb
        subst hb
        subst e
        exact hx ha
    obtain ⟨i1, i2⟩ := dd_fold l (ddStep k x) h'.1
    refine ⟨i1, fun s => ?_⟩
    rw [List.foldl_cons, i2, h'.2, List.mem_cons]
    constructor
    · rintro ((z | z) | z)
      · exact .inl z
      · exact .inr (.inl z)
      · exact .inr (.inr z)
    · rintro (z | z | z)
      · exact .inl (.inl z)
      · exact .inl (.inr z)
      · exact .inr z
def kn (T : List (List BN)) (C : List Nat) : List (List BN) := (T.map (sg C)).foldl ddStep []
def nx (T : List (List BN)) (C : List Nat) : List Nat := (T.map (sg C)).map (plc (kn T C))
section
variable {T : List (List BN)} {C : List Nat}
theorem kn_nodup : (kn T C).Nodup := (dd_fold _ [] List.nodup_nil).1
theorem kn_mem (s : List BN) : s ∈ kn T C ↔ s ∈ T.map (sg C) := by
  have := (dd_fold (T.map (sg C)) [] List.nodup_nil).2 s
  unfold kn
  rw [this]
  simp
theorem nx_len : (nx T C).length = T.length := by unfold nx; simp
theorem nx_at {i : Nat} {ri : List BN} (h : T[i]? = some ri) : (nx T C)[i]? = some (plc (kn T C) (sg C ri)) := by
  unfold nx
  rw [List.getElem?_map, List.getElem?_map, h]
  rfl
theorem sg_kn {i : Nat} {ri : List BN} (h : T[i]? = some ri) : sg C ri ∈ kn T C := (kn_mem _).mpr (List.mem_map.mpr ⟨ri, List.mem_of_getElem? h, rfl⟩)
theorem nx_iff {i j : Nat} {ri rj : List BN} (hi : T[i]? = some ri) (hj : T[j]? = some rj) : (nx T C)[i]? = (nx T C)[j]? ↔ sg C ri = sg C rj := by
  rw [nx_at hi, nx_at hj, Option.some.injEq]
  constructor
  · intro e
    have a := plc_get (sg_kn (C := C) hi)
    rw [e, plc_get (sg_kn (C := C) hj)] at a
    exact (Option.some.inj a).symm
  · intro e
    rw [e]
theorem nx_cnt : Cnt (nx T C) (kn T C).length := by
  refine ⟨fun x hx => ?_, fun v hv => ?_⟩
  · unfold nx at hx
    obtain ⟨s, hs, rfl⟩ := List.mem_map.mp hx
    exact plc_lt ((kn_mem s).mpr hs)
  · have m := (kn_mem (T := T) (C := C) (kn T C)[v]).mp (List.getElem_mem hv)
    unfold nx
    exact List.mem_map.mpr ⟨_, m, plc_at kn_nodup (List.getElem?_eq_getElem hv)⟩
theorem getD_at {C : List Nat} {i : Nat} (h : i < C.length) : C[i]? = some (C.getD i 0) := by
  rw [List.getD_eq_getElem?_getD, List.getElem?_eq_getElem h]
  rfl
theorem nx_sg (W : WT T) (hl : C.length = T.length) (r : Ref T C) {i j : Nat} {ri rj : List BN} (hi : T[i]? = some ri) (hj : T[j]? = some rj) (e : sg (nx T C) ri = sg (nx T C) rj) : sg C ri = sg C rj := by
  refine map_rel e fun p hp q hq h => ?_
  rw [Prod.mk.injEq] at h ⊢
  refine ⟨h.1, ?_⟩
  have p1 := W ri (List.mem_of_getElem? hi) p hp
  have q1 := W rj (List.mem_of_getElem? hj) q hq
  have ep : (nx T C)[p.2]? = (nx T C)[q.2]? := by rw [getD_at (by rw [nx_len]; exact p1), getD_at (by rw [nx_len]; exact q1), h.2]
  have es := (nx_iff (List.getElem?_eq_getElem p1) (List.getElem?_eq_getElem q1)).mp ep
  have ec := r _ _ _ _ (List.getElem?_eq_getElem p1) (List.getElem?_eq_getElem q1) es
  rw [getD_at (by omega), getD_at (by omega)] at ec
  exact Option.some.inj ec
theorem nx_ref (W : WT T) (hl : C.length = T.length) (r : Ref T C) : Ref T (nx T C) := fun i j ri rj hi hj e => (nx_iff hi hj).mpr (nx_sg W hl r hi hj e)
theorem nx_stable (W : WT T) (hl : C.length = T.length) (r : Ref T C) {c : Nat} (hc : Cnt C c) (hle : (kn T C).length ≤ c) : Stable T (nx T C) := by
  intro i j ri rj hi hj e
  have es := (nx_iff hi hj).mp e
  have fin := count_eq (n := T.length) hl nx_len hc nx_cnt (fun a b ha hb h => r a b _ _ (List.getElem?_eq_getElem ha) (List.getElem?_eq_getElem hb) ((nx_iff (List.getElem?_eq_getElem ha) (List.getElem?_eq_getElem hb)).mp h)) hle
  refine map_rel es fun p hp q hq h => ?_
  rw [Prod.mk.injEq] at h ⊢
  refine ⟨h.1, ?_⟩
  have p1 := W ri (List.mem_of_getElem? hi) p hp
  have q1 := W rj (List.mem_of_getElem? hj) q hq
  have ec : C[p.2]? = C[q.2]? := by rw [getD_at (by omega), getD_at (by omega), h.2]
  have := fin _ _ p1 q1 ec
  rw [getD_at (by rw [nx_len]; exact p1), getD_at (by rw [nx_len]; exact q1)] at this
  exact Option.some.inj this
theorem kn_le : (kn T C).length ≤ T.length := by
  have := nodup_len (kn T C) (T.map (sg C)) kn_nodup fun s hs => (kn_mem s).mp hs
  rw [List.length_map] at this
  exact this
end
end DL
end
section
set_option Elab.async false
set_option linter.all false
set_option maxRecDepth 100000
set_option autoImplicit false
/-! The plain law: classes_of. -/
namespace DL
open PySem PySem.Spec
open PyProof.Rows hiding St
open L2
def eN (n : Nat) : D := .int (n : Nat)
theorem en_n : EnOk eN 0 := en_nat
def eSg (s : List BN) : D := .tup (s.map eBN)
theorem en_sg : EnOk eSg 2 := en_bn.tupL
theorem notInO_of {α : Type} [DecidableEq α] {e : α → D} {k : Nat} (E : EnOk e k) (hk : k ≤ 60) (r : α) (i : Nat) (f : TD) (ρ ρ' : DE) (L : List α) (hf : f ρ = some (e r, ρ')) (hi : ρ'[i]? = some (some (.lst (L.map e)))) : dNotInO f i ρ = some (.bl (!decide (r ∈ L)), ρ') := by
  rw [e_dNotInO, hf, Option.bind_some]
  simp only [hi]
  rw [E.ok hk, E.lst_ok hk, inL_map E]
  simp
theorem ixn {C : List Nat} {i : Nat} (h : i < C.length) : atI (C.map eN) (i : Int) = some (eN (C.getD i 0)) := by
  rw [atI_nat, List.getElem?_map, getD_at h]
  rfl
def bodyCl : SD := (sSeq (sSet 2 (dCb gLen (aCons (dV 3) aNil)))
    (sSeq (sSet 4 (dLc [] [6] (lL (dV 0)) (gN 6) bYes (dCb gTuple (aCons (dLc [] [7, 8] (lL (dV 6)) (gT 2 (glC (gN 7) (glC (gN 8) glN))) bYes (dTup (aCons (dV 7) (aCons (dOp gIx (dV 1) (dV 8)) aNil)))) aNil))))
    (sSeq (sSet 3 (dLst aNil))
    (sSeq (sFor (lL (dV 4)) (gN 5) (sIf (dT (dNotInO (dV 5) 3)) (sApp 3 (dV 5)) sNil))
    (sSet 1 (dLc [] [5] (lL (dV 4)) (gN 5) bYes (dCal 2 F_place_of (aCons (dV 3) (aCons (dV 5) aNil)))))))))
section
variable {T : List (List BN)} {C : List Nat}
theorem cl_signs (W : WT T) (hr : ∀ row ∈ T, row.length ≤ 1000) (hl : C.length = T.length) (k : D) (m : Int) (x4 x5 : Option D) :
    lcL [6] (gN 6) bYes (dCb gTuple (aCons (dLc [] [7, 8] (lL (dV 6)) (gT 2 (glC (gN 7) (glC (gN 8) glN))) bYes (dTup (aCons (dV 7) (aCons (dOp gIx (dV 1) (dV 8)) aNil)))) aNil)) (T.map eLR) [some (.lst (T.map eLR)), some (.lst (C.map eN)), some (.int m), some k, x4, x5, none, none, none] =
      some (T.map fun row => eSg (sg C row), [some (.lst (T.map eLR)), some (.lst (C.map eN)), some (.int m), some k, x4, x5, none, none, none]) := by
  refine lc_all eLR (fun row => eSg (sg C row)) T fun row hrow => ⟨[some (.lst (T.map eLR)), some (.lst (C.map eN)), some (.int m), some k, x4, x5, some (eLR row), none, none], by simp, ?_, rfl⟩
  have c : lcL [7, 8] (gT 2 (glC (gN 7) (glC (gN 8) glN))) bYes (dTup (aCons (dV 7) (aCons (dOp gIx (dV 1) (dV 8)) aNil))) (row.map eBN) [some (.lst (T.map eLR)), some (.lst (C.map eN)), some (.int m), some k, x4, x5, some (eLR row), none, none] =
      some (row.map fun p => eBN (p.1, C.getD p.2 0), [some (.lst (T.map eLR)), some (.lst (C.map eN)), some (.int m), some k, x4, x5, some (eLR row), none, none]) := by
    refine lc_all eBN (fun p => eBN (p.1, C.getD p.2 0)) row fun p hp => ⟨[some (.lst (T.map eLR)), some (.lst (C.map eN)), some (.int m), some k, x4, x5, some (eLR row), some (.bl p.1), some (.int (p.2 : Nat))], by simp [eBN], ?_, rfl⟩
    have := W row hrow p hp
    simp [ixn (C := C) (i := p.2) (by omega)]
    rfl
  have sz1 : (row.length < sizeLine) = True := eq_true (sz' _ (by have := hr row hrow; omega))
  simp [eLR, wipeD]
  simp [eLR] at c
  rw [c]
  simp [sz1, eSg, sg]
theorem cl_known (Tb Cl : D) (m : Int) (S : List (List BN)) (hS : S.length ≤ 1000) (X : Option D) (x5 : Option D) :
    ∃ x5', sForL (gN 5) (sIf (dT (dNotInO (dV 5) 3)) (sApp 3 (dV 5)) sNil) (S.map eSg) [some Tb, some Cl, some (.int m), some (.lst []), X, x5, none, none, none] =
      some (.nx [some Tb, some Cl, some (.int m), some (.lst ((S.foldl ddStep []).map eSg)), X, x5', none, none, none]) := by
  have f := sFor_nx eSg (g := gN 5) (b := sIf (dT (dNotInO (dV 5) 3)) (sApp 3 (dV 5)) sNil) (fun l ρ => ∃ (pre : List (List BN)) (x5 : Option D), S = pre ++ l ∧ ρ = [some Tb, some Cl, some (.int m), some (.lst ((pre.foldl ddStep []).map eSg)), X, x5, none, none, none]) ?_ S _ ⟨[], x5, rfl, rfl⟩
  · obtain ⟨ρ', e, pre, x5', hp, rfl⟩ := f
    rw [List.append_nil] at hp
    subst hp
    exact ⟨x5', e⟩
  · rintro s l ρ ⟨pre, x5, hp, rfl⟩
    have hn := notInO_of en_sg (by decide) s 3 (dV 5) [some Tb, some Cl, some (.int m), some (.lst ((pre.foldl ddStep []).map eSg)), X, some (eSg s), none, none, none] _ _ (by simp; rfl) rfl
    have hk : (pre.foldl ddStep []).length ≤ 1000 := by
      have d := dd_fold pre [] List.nodup_nil
      have := nodup_len _ pre d.1 fun s hs => ((d.2 s).mp hs).elim (fun z => by cases z) id
      have : pre.length ≤ S.length := by rw [hp, List.length_append]; omega
      omega
    have sz1 : ((pre.foldl ddStep []).length < sizeLine) = True := eq_true (sz' _ (by omega))
    refine ⟨[some Tb, some Cl, some (.int m), some (.lst ((pre.foldl ddStep []).map eSg)), X, some (eSg s), none, none, none], [some Tb, some Cl, some (.int m), some (.lst (((pre ++ [s]).foldl ddStep []).map eSg)), X, some (eSg s), none, none, none], by simp, ?_, pre ++ [s], _, by simp [hp], rfl⟩
    rw [List.foldl_append, List.foldl_cons, List.foldl_nil]
    by_cases h : s ∈ pre.foldl ddStep []
    · simp [-e_dNotInO, hn, h, ddStep]
    · simp [-e_dNotInO, hn, h, ddStep, sz1]
theorem cl_new (Tb Cl : D) (m : Int) (x4 x5 : Option D) :
    lcL [5] (gN 5) bYes (dCal 2 F_place_of (aCons (dV 3) (aCons (dV 5) aNil))) ((T.map (sg C)).map eSg) [some Tb, some Cl, some (.int m), some (.lst ((kn T C).map eSg)), x4, none, none, none, none] =
      some ((T.map (sg C)).map fun s => eN (plc (kn T C) s), [some Tb, some Cl, some (.int m), some (.lst ((kn T C).map eSg)), x4, none, none, none, none]) := by
  refine lc_all eSg (fun s => eN (plc (kn T C) s)) (T.map (sg C)) fun s hs => ⟨[some Tb, some Cl, some (.int m), some (.lst ((kn T C).map eSg)), x4, some (eSg s), none, none, none], by simp, ?_, rfl⟩
  simp [p_place en_sg (by decide) ((kn_mem s).mpr hs)]
  rfl
theorem bodyCl_ok (W : WT T) (hn : T.length ≤ 1000) (hr : ∀ row ∈ T, row.length ≤ 1000) (hl : C.length = T.length) (kl : List D) (m : Int) (x4 x5 : Option D) :
    ∃ x4' x5', bodyCl [some (.lst (T.map eLR)), some (.lst (C.map eN)), some (.int m), some (.lst kl), x4, x5, none, none, none] =
      some (.nx [some (.lst (T.map eLR)), some (.lst ((nx T C).map eN)), some (.int kl.length), some (.lst ((kn T C).map eSg)), x4', x5', none, none, none]) := by
  obtain ⟨x5', h5⟩ := cl_known (.lst (T.map eLR)) (.lst (C.map eN)) kl.length (T.map (sg C)) (by rw [List.length_map]; exact hn) (some (.lst ((T.map (sg C)).map eSg))) x5
  refine ⟨some (.lst ((T.map (sg C)).map eSg)), x5', ?_⟩
  have sz1 : (T.length < sizeLine) = True := eq_true (sz' _ (by omega))
  have c1 := cl_signs W hr hl (.lst kl) kl.length x4 x5
  have c2 := cl_new (T := T) (C := C) (.lst (T.map eLR)) (.lst (C.map eN)) kl.length (some (.lst ((T.map (sg C)).map eSg))) none
  have e1 : (T.map fun row => eSg (sg C row)) = (T.map (sg C)).map eSg := by rw [List.map_map]; rfl
  rw [e1] at c1
  have e2 : (nx T C).map eN = (T.map (sg C)).map fun s => eN (plc (kn T C) s) := by unfold nx; rw [List.map_map]; rfl
  rw [e2]
  have h5' : sForL (gN 5) (sIf (dT (dNotInO (dV 5) 3)) (sApp 3 (dV 5)) sNil) ((T.map (sg C)).map eSg) [some (.lst (T.map eLR)), some (.lst (C.map eN)), some (.int kl.length), some (.lst []), some (.lst ((T.map (sg C)).map eSg)), x5, none, none, none] =
      some (.nx [some (.lst (T.map eLR)), some (.lst (C.map eN)), some (.int kl.length), some (.lst ((kn T C).map eSg)), some (.lst ((T.map (sg C)).map eSg)), x5', none, none, none]) := h5
  unfold bodyCl
  rw [e_sSeq]
  simp only [e_sSet, e_dCb, e_aCons, e_dV, List.getElem?_cons_succ, List.getElem?_cons_zero, Option.bind_some, e_aNil, Option.map_some, o_gLen_l, e_gN, List.length_cons, List.length_nil, List.set_cons_succ, List.set_cons_zero]
  simp [wipeD, sz1, -List.map_map, c1, h5', mixD]
  rw [c2]
  simp
theorem p_classes (W : WT T) (hpos : 0 < T.length) (hn : T.length ≤ 56) (hr : ∀ row ∈ T, row.length ≤ 1000) : ∃ C : List Nat, F_classes_of [.lst (T.map eLR)] = some (.lst (C.map eN)) ∧ C.length = T.length ∧ Stable T C := by
  have w := sWh_nx (c := dT (dOp gLt (dV 2) (dCb gLen (aCons (dV 3) aNil)))) (b := bodyCl)
    (I := fun m ρ => ∃ (C : List Nat) (k : Nat) (kl : List D) (x4 x5 : Option D), ρ = [some (.lst (T.map eLR)), some (.lst (C.map eN)), some (.int (k : Nat)), some (.lst kl), x4, x5, none, none, none] ∧ C.length = T.length ∧ Cnt C kl.length ∧ Ref T C ∧ (kl.length ≤ k → Stable T C) ∧ m + k = 60 ∧ kl.length ≤ 57)
    (QN := fun ρ => ∃ (C : List Nat) (x2 x3 x4 x5 : Option D), ρ = [some (.lst (T.map eLR)), some (.lst (C.map eN)), x2, x3, x4, x5, none, none, none] ∧ C.length = T.length ∧ Stable T C) ?_ FU 60
    [some (.lst (T.map eLR)), some (.lst ((T.map fun _ => 0).map eN)), some (.int 0), some (.lst [.tup []]), none, none, none, none, none] ?_ (by decide)
  · obtain ⟨ρ', e, C, x2, x3, x4, x5, rfl, h1, h2⟩ := w
    refine ⟨C, ?_, h1, h2⟩
    have c0 : lcL [6] (gN 6) bYes (dC (.int 0)) (T.map eLR) [some (.lst (T.map eLR)), none, none, none, none, none, none, none, none] = some (T.map fun _ => D.int 0, [some (.lst (T.map eLR)), none, none, none, none, none, none, none, none]) :=
      lc_all eLR (fun _ => D.int 0) T fun row hrow => ⟨[some (.lst (T.map eLR)), none, none, none, none, none, some (eLR row), none, none], by simp, rfl, rfl⟩
    have sz1 : (T.length < sizeLine) = True := eq_true (sz' _ (by omega))
    have e0 : (T.map fun _ => 0).map eN = T.map fun _ => D.int 0 := by rw [List.map_map]; rfl
    rw [e0] at e
    simp [F_classes_of, S_classes_of, startD, wipeD, sz1]
    rw [c0]
    simp
    rw [← bodyCl, e]
    simp
  · rintro m ρ ⟨C, k, kl, x4, x5, rfl, hl, hc, hrf, hst, hm, hkl⟩
    by_cases h : k < kl.length
    · refine .inr ⟨by simp; omega, ?_⟩
      obtain ⟨x4', x5', e⟩ := bodyCl_ok W (by omega) hr hl kl k x4 x5
      refine ⟨60 - kl.length, _, by omega, e, nx T C, kl.length, _, x4', x5', rfl, nx_len, ?_, nx_ref W hl hrf, ?_, by omega, ?_⟩
      · rw [List.length_map]; exact nx_cnt
      · rw [List.length_map]; exact fun hle => nx_stable W hl hrf hc hle
      · rw [List.length_map]
        have := kn_le (T := T) (C := C)
        omega
    · exact .inl ⟨by simp; omega, C, _, _, x4, x5, rfl, hl, hst (by omega)⟩
  · refine ⟨T.map fun _ => 0, 0, [.tup []], none, none, rfl, by simp, ⟨fun x hx => ?_, fun v hv => ?_⟩, fun i j ri rj hi hj _ => ?_, fun hle => by simp at hle, rfl, by simp⟩
    · obtain ⟨_, _, rfl⟩ := List.mem_map.mp hx
      simp
    · simp at hv
      subst hv
      cases T with
      | nil => simp at hpos
      | cons a l => simp
    · rw [List.getElem?_map, List.getElem?_map, hi, hj]
      rfl
end
end DL
end
section
set_option Elab.async false
set_option linter.all false
set_option maxRecDepth 100000
set_option autoImplicit false
/-! The plain law: runs. -/
namespace DL
open PySem PySem.Spec
open PyProof.Rows hiding St
open L2
abbrev Rn := Option Int × BN
def eRn (r : Rn) : D := .tup [eO r.1, .bl r.2.1, .int (r.2.2 : Nat)]
def upTo (s : Int) (r : Rn) : Bool := match r.1 with
  | none => true
  | some h => decide (s ≤ h)
/-- the run that a step falls into -/
def lk (rs : List Rn) (s : Int) : Option BN := (rs.find? (upTo s)).map (·.2)
/-- the runs of the steps before s: each step of them read rightly -/
structure Runs (rs : List Rn) (done : List (Int × BN)) (s : Int) : Prop where
  rd : ∀ x ∈ done, lk rs x.1 = some x.2
  lo : ∀ r ∈ rs, ∃ h, r.1 = some h ∧ h < s
  few : rs.length ≤ done.length
theorem find_app {rs : List Rn} {r : Rn} {s : Int} {q : BN} (h : lk rs s = some q) (l : List Rn) : lk (rs ++ l) s = some q := by
  unfold lk at h ⊢
  rw [List.find?_append]
  cases e : rs.find? (upTo s) with
  | none => rw [e] at h; cases h
  | some x => rw [e] at h; exact h
theorem lk_app_none {rs : List Rn} {s : Int} (h : ∀ r ∈ rs, ∃ x, r.1 = some x ∧ x < s) (l : List Rn) : lk (rs ++ l) s = lk l s := by
  unfold lk
  rw [List.find?_append]
  have : rs.find? (upTo s) = none := by
    rw [List.find?_eq_none]
    intro r hr
    obtain ⟨x, e, hx⟩ := h r hr
    unfold upTo
    rw [e]
    simp
    omega
  rw [this]
  rfl
theorem lk_last (s : Int) (q : BN) : lk [(some s, q)] s = some q := by
  unfold lk
  simp [upTo]
theorem runs_new {rs : List Rn} {done : List (Int × BN)} {s t : Int} (h : Runs rs done s) (st : s < t) (q : BN) : Runs (rs ++ [(some s, q)]) (done ++ [(s, q)]) t where
  rd x hx := by
    rcases List.mem_append.mp hx with z | z
    · exact find_app (r := (some s, q)) (h.rd x z) _
    · simp at z
      subst z
      rw [lk_app_none h.lo]
      exact lk_last s q
  lo r hr := by
    rcases List.mem_append.mp hr with z | z
    · obtain ⟨x, e, hx⟩ := h.lo r z
      exact ⟨x, e, by omega⟩
    · simp at z
      subst z
      exact ⟨s, rfl, st⟩
  few := by rw [List.length_append, List.length_append]; have := h.few; simp; exact this
theorem runs_same {rs : List Rn} {done : List (Int × BN)} {s t : Int} {y : Int} {q : BN} (h : Runs (rs ++ [(some y, q)]) done s) (st : s < t) : Runs (rs ++ [(some s, q)]) (done ++ [(s, q)]) t where
  rd x hx := by
    have hlo : ∀ r ∈ rs, ∃ h, r.1 = some h ∧ h < s := fun r hr => h.lo r (List.mem_append_left _ hr)
    rcases List.mem_append.mp hx with z | z
    · have r := h.rd x z
      unfold lk at r ⊢
      rw [List.find?_append] at r ⊢
      cases e : rs.find? (upTo x.1) with
      | some w => rw [e] at r; exact r
      | none =>
        rw [e] at r
        obtain ⟨h', e1, e2⟩ := h.lo (some y, q) (by simp)
        cases e1
        by_cases hy : x.1 ≤ y
        · simp [upTo, hy] at r
          have hs : x.1 ≤ s := by omega
          simp [upTo, hs, r]
        · simp [upTo, hy] at r
    · simp at z
      subst z
      rw [lk_app_none hlo]
      exact lk_last s q
  lo r hr := by
    rcases List.mem_append.mp hr with z | z
    · obtain ⟨x, e, hx⟩ := h.lo r (List.mem_append_left _ z)
      exact ⟨x, e, by omega⟩
    · simp at z
      subst z
      exact ⟨s, rfl, st⟩
  few := by
    have := h.few
    rw [List.length_append] at this ⊢
    rw [List.length_append]
    simp at this ⊢
    omega
theorem runs_open {rs : List Rn} {y : Int} {q : BN} {done : List (Int × BN)} {s : Int} (h : Runs (rs ++ [(some y, q)]) done s) : ∀ x ∈ done, lk (rs ++ [(none, q)]) x.1 = some x.2 := by
  intro x hx
  have r := h.rd x hx
  unfold lk at r ⊢
  rw [List.find?_append] at r ⊢
  cases e : rs.find? (upTo x.1) with
  | some w => rw [e] at r; exact r
  | none =>
    rw [e] at r
    by_cases hy : x.1 ≤ y
    · simp [upTo, hy] at r
      simp [upTo, r]
    · simp [upTo, hy] at r
theorem rn_tail (r : Rn) : gSl (some 1) none (eRn r) = some (eBN r.2) := by
  show some (D.tup (cutD _ _ _)) = _
  rw [cutD_1]
  rfl
def bodyRn : SD := (sSeq (sIf (bAnd (dT (dOp gNe (dV 1) (dTup aNil))) (dT (dOp gEq (dSl (dOp gIx (dV 1) (dNeg (dC (.int 1)))) (oS (dC (.int 1))) oN) (dTup (aCons (dV 3) (aCons (dV 4) aNil)))))) (sSet 1 (dSl (dV 1) oN (oS (dNeg (dC (.int 1)))))) sNil)
    (sSet 1 (dOp gAdd (dV 1) (dTup (aCons (dTup (aCons (dV 2) (aCons (dV 3) (aCons (dV 4) aNil)))) aNil)))))
theorem en_O : EnOk eO 0 where
  isp a := by cases a <;> rfl
  lay a := by cases a <;> rfl
  dep a := by cases a <;> exact Nat.le_refl _
  eqv a b := by cases a <;> cases b <;> simp [eO, py, PyData.eqv]
  nos a x h := by cases a <;> cases h
theorem en_rn : EnOk eRn 1 where
  isp r := by obtain ⟨o, b, n⟩ := r; cases o <;> rfl
  lay r := by obtain ⟨o, b, n⟩ := r; cases o <;> rfl
  dep r := by obtain ⟨o, b, n⟩ := r; cases o <;> exact Nat.le_refl _
  eqv a b := by
    obtain ⟨o, x, n⟩ := a
    obtain ⟨p, c, m⟩ := b
    cases o <;> cases p <;> simp [eRn, eO, py, pyL, PyData.eqv, PyData.eqvAll] <;> omega
  nos a x h := by obtain ⟨o, b, n⟩ := a; cases o <;> cases h
theorem rn_nil (rs : List Rn) : gNe (.tup (rs.map eRn)) (.tup []) = some (.bl (!decide (rs = []))) := en_rn.tupL.ne (by decide) rs []
theorem bodyRn_ok (A : D) (rs : List Rn) (s t : Int) (q : BN) (done : List (Int × BN)) (h : Runs rs done s) (st : s < t) (hd : done.length ≤ 100) : ∃ rs', Runs rs' (done ++ [(s, q)]) t ∧ rs' ≠ [] ∧
    bodyRn [some A, some (.tup (rs.map eRn)), some (.int s), some (.bl q.1), some (.int (q.2 : Nat))] = some (.nx [some A, some (.tup (rs'.map eRn)), some (.int s), some (.bl q.1), some (.int (q.2 : Nat))]) := by
  have few := h.few
  rcases List.eq_nil_or_concat rs with rfl | ⟨l, r, rfl⟩
  · refine ⟨[(some s, q)], runs_new h st q, by simp, ?_⟩
    have n := rn_nil []
    simp at n
    simp [bodyRn, n, szl1, eRn, eO]
  · rw [List.concat_eq_append] at h few ⊢
    rw [List.length_append] at few
    simp at few
    obtain ⟨o, q0⟩ := r
    obtain ⟨y, e, _⟩ := h.lo (o, q0) (by simp)
    simp at e
    subst e
    have n := rn_nil (l ++ [(some y, q0)])
    simp at n
    have tl := rn_tail (some y, q0)
    have eq := en_bn.eq (by decide) q0 q
    have szl : (l.length + 1 ≤ sizeLine) = True := eq_true (sz _ (by omega))
    have szl' : (l.length + 1 + 1 ≤ sizeLine) = True := eq_true (sz _ (by omega))
    have eqd : eBN q = .tup [.bl q.1, .int (q.2 : Nat)] := rfl
    rw [eqd] at eq
    have er : eRn (some s, q) = .tup [.int s, .bl q.1, .int (q.2 : Nat)] := rfl
    by_cases hq : q0 = q
    · subst hq
      refine ⟨l ++ [(some s, q0)], runs_same h st, by simp, ?_⟩
      simp [bodyRn, n, tl, eq, szl, er]
    · refine ⟨(l ++ [(some y, q0)]) ++ [(some s, q)], runs_new h st q, by simp, ?_⟩
      simp [bodyRn, n, tl, eq, hq, szl', er]
end DL
end
section
set_option Elab.async false
set_option linter.all false
set_option maxRecDepth 100000
set_option autoImplicit false
/-! The plain law: runs_of, run_at. -/
namespace DL
open PySem PySem.Spec
open PyProof.Rows hiding St
open L2
def eZ (p : Int × BN) : D := .tup [.int p.1, eBN p.2]
theorem zip_at' {row : List BN} (h : row.length = 27) {i : Nat} {x : Int × BN} (e : (ST.zip row)[i]? = some x) : x.1 = (i : Int) - 13 ∧ row[i]? = some x.2 := by
  rw [List.getElem?_zip_eq_some] at e
  have hi : i < 27 := by have := (List.getElem?_eq_some_iff.mp e.2).1; omega
  rw [ST_get i hi] at e
  exact ⟨(Option.some.inj e.1).symm, e.2⟩
theorem add_non (q : BN) : gAdd (.tup [.non]) (eBN q) = some (eRn (none, q)) := by
  have s : (1 + 2 ≤ sizeLine) = True := eq_true (sz _ (by omega))
  simp [eBN, s, eRn, eO]
theorem p_runs (row : List BN) (h : row.length = 27) : ∃ rs : List Rn, F_runs_of [eLR row] = some (.tup (rs.map eRn)) ∧ ∀ (i : Nat) (q : BN), row[i]? = some q → lk rs ((i : Int) - 13) = some q := by
  have f := sFor_nx eZ (g := gT 2 (glC (gN 2) (glC (gT 2 (glC (gN 3) (glC (gN 4) glN))) glN))) (b := bodyRn)
    (fun l ρ => ∃ (pre : List (Int × BN)) (rs : List Rn) (x2 x3 x4 : Option D), ST.zip row = pre ++ l ∧ Runs rs pre ((pre.length : Int) - 13) ∧ (pre ≠ [] → rs ≠ []) ∧ ρ = [some (eLR row), some (.tup (rs.map eRn)), x2, x3, x4]) ?_ (ST.zip row) _
    ⟨[], [], none, none, none, rfl, ⟨fun x hx => (by cases hx), fun r hr => (by cases hr), Nat.le_refl _⟩, fun z => absurd rfl z, rfl⟩
  · obtain ⟨ρ', e, pre, rs, x2, x3, x4, hp, hR, hne, rfl⟩ := f
    rw [List.append_nil] at hp
    have hzl : (ST.zip row).length = 27 := by rw [List.length_zip, ST_len, h]; rfl
    have hpne : pre ≠ [] := fun z => by rw [hp, z] at hzl; simp at hzl
    rcases List.eq_nil_or_concat rs with rfl | ⟨l, r, rfl⟩
    · exact absurd rfl (hne hpne)
    · rw [List.concat_eq_append] at e hR
      obtain ⟨o, q0⟩ := r
      obtain ⟨y, ey, _⟩ := hR.lo (o, q0) (by simp)
      simp at ey
      subst ey
      refine ⟨l ++ [(none, q0)], ?_, ?_⟩
      · have tl := rn_tail (some y, q0)
        have few := hR.few
        rw [← hp, hzl, List.length_append] at few
        have szl : (l.length + 1 ≤ sizeLine) = True := eq_true (sz _ (by simp at few; omega))
        have ez : zipD (ST.map D.int) (row.map eBN) = (ST.zip row).map eZ := by
          unfold zipD
          rw [List.zip_map, List.map_map]
          rfl
        simp [F_runs_of, S_runs_of, startD, p_all_steps, eLR, ez]
        rw [← bodyRn]
        simp [eLR] at e
        rw [e]
        simp [tl, add_non, szl]
      · intro i q hq
        have hi : i < 27 := by have := (List.getElem?_eq_some_iff.mp hq).1; omega
        have hm : ((i : Int) - 13, q) ∈ pre := by
          rw [← hp]
          refine List.mem_of_getElem? (i := i) ?_
          rw [List.getElem?_zip_eq_some]
          exact ⟨ST_get i hi, hq⟩
        exact runs_open hR _ hm
  · rintro x l ρ ⟨pre, rs, x2, x3, x4, hp, hR, hne, rfl⟩
    have hx : (ST.zip row)[pre.length]? = some x := by rw [hp]; simp
    obtain ⟨z1, _⟩ := zip_at' h hx
    obtain ⟨s, q⟩ := x
    simp at z1
    subst z1
    have hzl : (ST.zip row).length = 27 := by rw [List.length_zip, ST_len, h]; rfl
    have hpl : pre.length ≤ 27 := by rw [hp, List.length_append] at hzl; omega
    obtain ⟨rs', h1, h2, h3⟩ := bodyRn_ok (eLR row) rs _ (((pre ++ [(((pre.length : Int) - 13), q)]).length : Int) - 13) q pre hR (by simp; omega) (by omega)
    refine ⟨_, _, ?_, h3, pre ++ [(((pre.length : Int) - 13), q)], rs', _, _, _, by simp [hp], h1, fun _ => h2, rfl⟩
    simp [eZ, eBN]
theorem p_runat (fs : List (List Rn)) (p : Nat) (rs : List Rn) (s : Int) (q : BN) (h1 : fs[p]? = some rs) (h2 : lk rs s = some q) : F_run_at [.tup (fs.map fun rs => .tup (rs.map eRn)), .int (p : Nat), .int s] = some (eBN q) := by
  have key : ∀ (rs : List Rn) (x3 x4 x5 : Option D), lk rs s = some q → ∃ ρ, sForL (gT 3 (glC (gN 3) (glC (gN 4) (glC (gN 5) glN)))) (sIf (bOr (dT (dOp gIs (dV 3) (dC .non))) (dT (dOp gLe (dV 2) (dV 3)))) (sRet (dTup (aCons (dV 4) (aCons (dV 5) aNil)))) sNil) (rs.map eRn)
      [some (.tup (fs.map fun rs => .tup (rs.map eRn))), some (.int (p : Nat)), some (.int s), x3, x4, x5] = some (.rt (eBN q) ρ) := by
    intro rs
    induction rs with
    | nil => intro _ _ _ h; cases h
    | cons r rs ih =>
      intro x3 x4 x5 h
      obtain ⟨o, b, n⟩ := r
      rw [List.map_cons, sFL_cons]
      cases o with
      | none =>
        simp [lk, upTo] at h
        subst h
        refine ⟨[some (.tup (fs.map fun rs => .tup (rs.map eRn))), some (.int (p : Nat)), some (.int s), some .non, some (.bl b), some (.int (n : Nat))], ?_⟩
        simp [eRn, eO, eBN]
      | some y =>
        by_cases hy : s ≤ y
        · simp [lk, upTo, hy] at h
          subst h
          refine ⟨[some (.tup (fs.map fun rs => .tup (rs.map eRn))), some (.int (p : Nat)), some (.int s), some (.int y), some (.bl b), some (.int (n : Nat))], ?_⟩
          simp [eRn, eO, eBN, hy]
        · have h' : lk rs s = some q := by
            unfold lk at h ⊢
            rw [List.find?_cons] at h
            simp [upTo, hy] at h ⊢
            exact h
          obtain ⟨ρ, e⟩ := ih (some (.int y)) (some (.bl b)) (some (.int (n : Nat))) h'
          refine ⟨ρ, ?_⟩
          rw [← e]
          simp [eRn, eO, hy]
  obtain ⟨ρ, e⟩ := key rs none none none h2
  have hi : (fs.map fun rs => D.tup (rs.map eRn))[p]? = some (.tup (rs.map eRn)) := by rw [List.getElem?_map, h1]; rfl
  simp [F_run_at, S_run_at, startD, -List.getElem?_map, hi]
  rw [e]
end DL
end
section
set_option Elab.async false
set_option linter.all false
set_option maxRecDepth 100000
set_option autoImplicit false
/-! The plain law: least_of, form_of. -/
namespace DL
open PySem PySem.Spec
open PyProof.Rows hiding St
open L2
noncomputable def rsOf (row : List BN) : List Rn := if h : row.length = 27 then Classical.choose (p_runs row h) else []
theorem rsOf_ok (row : List BN) (h : row.length = 27) : F_runs_of [eLR row] = some (.tup ((rsOf row).map eRn)) ∧ ∀ (i : Nat) (q : BN), row[i]? = some q → lk (rsOf row) ((i : Int) - 13) = some q := by
  have e : rsOf row = Classical.choose (p_runs row h) := by
    unfold rsOf
    rw [dif_pos h]
  rw [e]
  exact Classical.choose_spec (p_runs row h)
noncomputable def eForm (frm : List (List BN)) : D := .tup ((frm.map rsOf).map fun rs => .tup (rs.map eRn))
theorem p_runat' {frm : List (List BN)} {p : Nat} {row : List BN} {s : Int} {q : BN} (h1 : frm[p]? = some row) (hl : row.length = 27) (hs : s ∈ ST) (h2 : row[(s + 13).toNat]? = some q) : F_run_at [eForm frm, .int (p : Nat), .int s] = some (eBN q) := by
  refine p_runat (frm.map rsOf) p (rsOf row) s q (by rw [List.getElem?_map, h1]; rfl) ?_
  have := (rsOf_ok row hl).2 _ _ h2
  rw [mem_ST] at hs
  rw [show (((s + 13).toNat : Nat) : Int) - 13 = s by omega] at this
  exact this
def rowC (T : List (List BN)) (C : List Nat) (c : Nat) : List BN := sg C (T.getD (plc C c) [])
structure OI (T : List (List BN)) (C : List Nat) (order : List Nat) (rows : List (List BN)) : Prop where
  hd : order[0]? = C[0]?
  nd : order.Nodup
  mem : ∀ c ∈ order, c ∈ C
  le : rows.length ≤ order.length
  row : ∀ (j : Nat) (r : List BN), rows[j]? = some r → ∃ c, order[j]? = some c ∧ r = rowC T C c
  cl : ∀ r ∈ rows, ∀ p ∈ r, p.2 ∈ order
def bodyLs : SD := (sSeq (sSet 5 (dLc [3, 2] [4, 7] (lL (dOp gIx (dV 0) (dCal 2 F_place_of (aCons (dV 1) (aCons (dO 2 (dOwn 3 kLen) gIx) aNil))))) (gT 2 (glC (gN 4) (glC (gN 7) glN))) bYes (dTup (aCons (dV 4) (aCons (dOp gIx (dV 1) (dV 7)) aNil)))))
    (sSeq (sApp 3 (dV 5))
    (sFor (lL (dV 5)) (gT 2 (glC (gN 4) (glC (gN 6) glN))) (sIf (dT (dNotInO (dV 6) 2)) (sApp 2 (dV 6)) sNil))))
section
variable {T : List (List BN)} {C order : List Nat} {rows : List (List BN)}
theorem OI.olen (h : OI T C order rows) (hl : C.length = T.length) : order.length ≤ T.length := by
  rw [← hl]
  exact nodup_len _ _ h.nd h.mem
theorem sg_len (row : List BN) : (sg C row).length = row.length := by unfold sg; simp
theorem sg_mem (W : WT T) (hl : C.length = T.length) {row : List BN} (h : row ∈ T) {p : BN} (hp : p ∈ sg C row) : p.2 ∈ C := by
  unfold sg at hp
  obtain ⟨q, hq, rfl⟩ := List.mem_map.mp hp
  have := W row h q hq
  exact List.mem_of_getElem? (getD_at (i := q.2) (by omega))
/-- the names of a row come into the order -/
theorem ls_names (A B X : D) (rw_ : List BN) (hC : ∀ p ∈ rw_, p.2 ∈ C) (o0 : List Nat) (nd : o0.Nodup) (hm : ∀ c ∈ o0, c ∈ C) (hlen : C.length ≤ 1000) (x4 x6 : Option D) :
    ∃ (o1 : List Nat) (y4 y6 : Option D), sForL (gT 2 (glC (gN 4) (glC (gN 6) glN))) (sIf (dT (dNotInO (dV 6) 2)) (sApp 2 (dV 6)) sNil) (rw_.map eBN) [some A, some B, some (.lst (o0.map eN)), some X, x4, some (.lst (rw_.map eBN)), x6, none] =
      some (.nx [some A, some B, some (.lst (o1.map eN)), some X, y4, some (.lst (rw_.map eBN)), y6, none]) ∧ o1.Nodup ∧ (∀ c ∈ o1, c ∈ C) ∧ (∃ tl, o1 = o0 ++ tl) ∧ ∀ p ∈ rw_, p.2 ∈ o1 := by
  have f := sFor_nx eBN (g := gT 2 (glC (gN 4) (glC (gN 6) glN))) (b := sIf (dT (dNotInO (dV 6) 2)) (sApp 2 (dV 6)) sNil)
    (fun l ρ => ∃ (pre : List BN) (o1 : List Nat) (y4 y6 : Option D), rw_ = pre ++ l ∧ ρ = [some A, some B, some (.lst (o1.map eN)), some X, y4, some (.lst (rw_.map eBN)), y6, none] ∧ o1.Nodup ∧ (∀ c ∈ o1, c ∈ C) ∧ (∃ tl, o1 = o0 ++ tl) ∧ ∀ p ∈ pre, p.2 ∈ o1) ?_ rw_ _
    ⟨[], o0, x4, x6, rfl, rfl, nd, hm, ⟨[], by simp⟩, by simp⟩
  · obtain ⟨ρ', e, pre, o1, y4, y6, hp, rfl, h1, h2, h3, h4⟩ := f
    rw [List.append_nil] at hp
    subst hp
    exact ⟨o1, y4, y6, e, h1, h2, h3, h4⟩
  · rintro p l ρ ⟨pre, o1, y4, y6, hp, rfl, h1, h2, ⟨tl, h3⟩, h4⟩
    have hn := notInO_of en_n (by decide) p.2 2 (dV 6) [some A, some B, some (.lst (o1.map eN)), some X, some (.bl p.1), some (.lst (rw_.map eBN)), some (eN p.2), none] _ _ (by simp; rfl) rfl
    have hk : o1.length ≤ C.length := nodup_len _ _ h1 h2
    have sz1 : (o1.length < sizeLine) = True := eq_true (sz' _ (by omega))
    have hpm : p ∈ rw_ := by rw [hp]; simp
    by_cases h : p.2 ∈ o1
    · refine ⟨[some A, some B, some (.lst (o1.map eN)), some X, some (.bl p.1), some (.lst (rw_.map eBN)), some (eN p.2), none], [some A, some B, some (.lst (o1.map eN)), some X, some (.bl p.1), some (.lst (rw_.map eBN)), some (eN p.2), none], by simp [eBN, eN], ?_, pre ++ [p], o1, _, _, by simp [hp], rfl, h1, h2, ⟨tl, h3⟩, ?_⟩
      · simp [-e_dNotInO, hn, h]
      · intro q hq
        rcases List.mem_append.mp hq with z | z
        · exact h4 q z
        · simp at z; subst z; exact h
    · refine ⟨[some A, some B, some (.lst (o1.map eN)), some X, some (.bl p.1), some (.lst (rw_.map eBN)), some (eN p.2), none], [some A, some B, some (.lst ((o1 ++ [p.2]).map eN)), some X, some (.bl p.1), some (.lst (rw_.map eBN)), some (eN p.2), none], by simp [eBN, eN], ?_, pre ++ [p], o1 ++ [p.2], _, _, by simp [hp], rfl, ?_, ?_, ⟨tl ++ [p.2], by rw [h3, List.append_assoc]⟩, ?_⟩
      · simp [-e_dNotInO, hn, h, sz1]
      · refine List.nodup_append.mpr ⟨h1, by simp, fun a ha b hb e => ?_⟩
        simp at hb
        subst hb
        subst e
        exact h ha
      · intro c hc
        rcases List.mem_append.mp hc with z | z
        · exact h2 c z
        · simp at z; subst z; exact hC p hpm
      · intro q hq
        rcases List.mem_append.mp hq with z | z
        · exact List.mem_append_left _ (h4 q z)
        · simp at z; subst z; simp
theorem bodyLs_ok (W : WT T) (hn : T.length ≤ 56) (hr : ∀ row ∈ T, row.length = 27) (hl : C.length = T.length) (h : OI T C order rows) (hlt : rows.length < order.length) (x4 x5 x6 : Option D) :
    ∃ (o1 : List Nat) (r1 : List BN) (y4 y5 y6 : Option D), OI T C o1 (rows ++ [r1]) ∧ bodyLs [some (.lst (T.map eLR)), some (.lst (C.map eN)), some (.lst (order.map eN)), some (.lst (rows.map eLR)), x4, x5, x6, none] =
      some (.nx [some (.lst (T.map eLR)), some (.lst (C.map eN)), some (.lst (o1.map eN)), some (.lst ((rows ++ [r1]).map eLR)), y4, y5, y6, none]) := by
  have hc : order[rows.length]? = some order[rows.length] := List.getElem?_eq_getElem hlt
  have hcm := h.mem _ (List.getElem_mem hlt)
  have hpl := plc_lt hcm
  have ht : T[plc C order[rows.length]]? = some T[plc C order[rows.length]] := List.getElem?_eq_getElem (by omega)
  have htm : T[plc C order[rows.length]] ∈ T := List.getElem_mem _
  have er : rowC T C order[rows.length] = sg C T[plc C order[rows.length]] := by
    unfold rowC
    rw [List.getD_eq_getElem?_getD, ht]
    rfl
  have ix1 : atI (order.map eN) (rows.length : Int) = some (eN order[rows.length]) := by rw [atI_nat, List.getElem?_map, hc]; rfl
  have ix2 : (T.map eLR)[plc C order[rows.length]]? = some (eLR T[plc C order[rows.length]]) := by rw [List.getElem?_map, ht]; rfl
  have pl := p_place en_n (by decide) hcm
  have c1 : ∀ (A B x5 x6 : Option D), lcL [4, 7] (gT 2 (glC (gN 4) (glC (gN 7) glN))) bYes (dTup (aCons (dV 4) (aCons (dOp gIx (dV 1) (dV 7)) aNil))) (T[plc C order[rows.length]].map eBN) [some (.lst (T.map eLR)), some (.lst (C.map eN)), A, B, none, x5, x6, none] =
      some (T[plc C order[rows.length]].map fun p => eBN (p.1, C.getD p.2 0), [some (.lst (T.map eLR)), some (.lst (C.map eN)), A, B, none, x5, x6, none]) := fun A B x5 x6 => by
    refine lc_all eBN (fun p => eBN (p.1, C.getD p.2 0)) _ fun p hp => ⟨[some (.lst (T.map eLR)), some (.lst (C.map eN)), A, B, some (.bl p.1), x5, x6, some (.int (p.2 : Nat))], by simp [eBN], ?_, rfl⟩
    have := W _ htm p hp
    simp [ixn (C := C) (i := p.2) (by omega)]
    rfl
  have e1 : (T[plc C order[rows.length]].map fun p => eBN (p.1, C.getD p.2 0)) = (rowC T C order[rows.length]).map eBN := by
    rw [er]
    unfold sg
    rw [List.map_map]
    rfl
  rw [e1] at c1
  have olen := h.olen hl
  obtain ⟨o1, y4, y6, f1, f2, f3, ⟨tl, f4⟩, f5⟩ := ls_names (C := C) (.lst (T.map eLR)) (.lst (C.map eN)) (.lst ((rows ++ [rowC T C order[rows.length]]).map eLR)) (rowC T C order[rows.length]) (fun p hp => sg_mem W hl htm (by rw [← er]; exact hp)) order h.nd h.mem (by omega) x4 x6
  have szr : (rows.length < sizeLine) = True := eq_true (sz' _ (by omega))
  have szt : (T[plc C order[rows.length]].length < sizeLine) = True := eq_true (sz' _ (by rw [hr _ htm]; omega))
  refine ⟨o1, rowC T C order[rows.length], y4, some (.lst ((rowC T C order[rows.length]).map eBN)), y6, ⟨?_, f2, f3, ?_, ?_, ?_⟩, ?_⟩
  · rw [f4, List.getElem?_append_left (by omega)]
    exact h.hd
  · rw [f4, List.length_append, List.length_append]
    simp
    omega
  · intro j r hj
    by_cases hlt' : j < rows.length
    · rw [List.getElem?_append_left hlt'] at hj
      obtain ⟨c, e, e'⟩ := h.row j r hj
      exact ⟨c, by rw [f4, List.getElem?_append_left (by omega)]; exact e, e'⟩
    · have hj' := (List.getElem?_eq_some_iff.mp hj).1
      rw [List.length_append] at hj'
      simp at hj'
      have : j = rows.length := by omega
      subst this
      rw [List.getElem?_append_right (Nat.le_refl _)] at hj
      simp at hj
      exact ⟨_, by rw [f4, List.getElem?_append_left (by omega)]; exact hc, hj.symm⟩
  · intro r hr' p hp
    rcases List.mem_append.mp hr' with z | z
    · rw [f4]
      exact List.mem_append_left _ (h.cl r z p hp)
    · simp at z
      subst z
      exact f5 p hp
  · unfold bodyLs
    simp [ix1, pl, ix2, wipeD, mixD]
    simp [eLR, szt]
    rw [c1]
    simp [szr]
    simp [eLR] at f1
    rw [f1]
end
end DL
end
section
set_option Elab.async false
set_option linter.all false
set_option maxRecDepth 100000
set_option autoImplicit false
/-! The plain law: form_of. -/
namespace DL
open PySem PySem.Spec
open PyProof.Rows hiding St
open L2
section
variable {T : List (List BN)} {C : List Nat}
def frmOf (order : List Nat) (rows : List (List BN)) : List (List BN) := rows.map fun row => row.map fun p => (p.1, plc order p.2)
theorem rowC_len (hr : ∀ row ∈ T, row.length = 27) (hl : C.length = T.length) {c : Nat} (h : c ∈ C) : (rowC T C c).length = 27 := by
  have hp := plc_lt h
  unfold rowC
  rw [sg_len, List.getD_eq_getElem?_getD, List.getElem?_eq_getElem (by omega)]
  exact hr _ (List.getElem_mem _)
theorem OI.rlen {order : List Nat} {rows : List (List BN)} (h : OI T C order rows) (hr : ∀ row ∈ T, row.length = 27) (hl : C.length = T.length) : ∀ row ∈ rows, row.length = 27 := fun row hrow => by
  obtain ⟨j, hj⟩ := List.getElem?_of_mem hrow
  obtain ⟨c, e, rfl⟩ := h.row j row hj
  exact rowC_len hr hl (h.mem c (List.mem_of_getElem? e))
theorem p_least (W : WT T) (hpos : 0 < T.length) (hn : T.length ≤ 56) (hr : ∀ row ∈ T, row.length = 27) : ∃ (C order : List Nat) (rows : List (List BN)), C.length = T.length ∧ Stable T C ∧ OI T C order rows ∧ rows.length = order.length ∧ F_least_of [.lst (T.map eLR)] = some (eForm (frmOf order rows)) := by
  obtain ⟨C, eC, hl, hst⟩ := p_classes W hpos hn fun row h => by rw [hr row h]; omega
  have w := sWh_nx (c := dT (dOp gLt (dOwn 3 kLen) (dOwn 2 kLen))) (b := bodyLs)
    (I := fun m ρ => ∃ (order : List Nat) (rows : List (List BN)) (x4 x5 x6 : Option D), ρ = [some (.lst (T.map eLR)), some (.lst (C.map eN)), some (.lst (order.map eN)), some (.lst (rows.map eLR)), x4, x5, x6, none] ∧ OI T C order rows ∧ m + rows.length = 57)
    (QN := fun ρ => ∃ (order : List Nat) (rows : List (List BN)) (x4 x5 x6 : Option D), ρ = [some (.lst (T.map eLR)), some (.lst (C.map eN)), some (.lst (order.map eN)), some (.lst (rows.map eLR)), x4, x5, x6, none] ∧ OI T C order rows ∧ rows.length = order.length) ?_ FU 57
    [some (.lst (T.map eLR)), some (.lst (C.map eN)), some (.lst ([C.getD 0 0].map eN)), some (.lst []), none, none, none, none] ?_ (by decide)
  · obtain ⟨ρ', e, order, rows, x4, x5, x6, rfl, hO, hle⟩ := w
    refine ⟨C, order, rows, hl, hst, hO, hle, ?_⟩
    have olen := hO.olen hl
    have hC0 : C[0]? = some (C.getD 0 0) := getD_at (by omega)
    have ix0 : (C.map eN)[0]? = some (eN (C.getD 0 0)) := by rw [List.getElem?_map, hC0]; rfl
    have szr : (rows.length < sizeLine) = True := eq_true (sz' _ (by omega))
    have rl := hO.rlen hr hl
    have c1 : ∀ (x4 x5 x6 : Option D) (row : List BN), row ∈ rows → lcL [4, 6] (gT 2 (glC (gN 4) (glC (gN 6) glN))) bYes (dTup (aCons (dV 4) (aCons (dCal 2 F_place_of (aCons (dV 2) (aCons (dV 6) aNil))) aNil))) (row.map eBN) [some (.lst (T.map eLR)), some (.lst (C.map eN)), some (.lst (order.map eN)), some (.lst (rows.map eLR)), none, x5, none, none] =
        some (row.map fun p => eBN (p.1, plc order p.2), [some (.lst (T.map eLR)), some (.lst (C.map eN)), some (.lst (order.map eN)), some (.lst (rows.map eLR)), none, x5, none, none]) := fun x4 x5 x6 row hrow => by
      refine lc_all eBN (fun p => eBN (p.1, plc order p.2)) row fun p hp => ⟨[some (.lst (T.map eLR)), some (.lst (C.map eN)), some (.lst (order.map eN)), some (.lst (rows.map eLR)), some (.bl p.1), x5, some (eN p.2), none], by simp [eBN, eN], ?_, rfl⟩
      have pl := p_place en_n (by decide) (hO.cl row hrow p hp)
      simp [pl]
      rfl
    have c2 : ∀ (x4 x6 : Option D), lcL [5] (gN 5) bYes (dCal 1 F_runs_of (aCons (dLc [] [4, 6] (lL (dV 5)) (gT 2 (glC (gN 4) (glC (gN 6) glN))) bYes (dTup (aCons (dV 4) (aCons (dCal 2 F_place_of (aCons (dV 2) (aCons (dV 6) aNil))) aNil)))) aNil)) (rows.map eLR) [some (.lst (T.map eLR)), some (.lst (C.map eN)), some (.lst (order.map eN)), some (.lst (rows.map eLR)), x4, none, x6, none] =
        some (rows.map fun row => .tup ((rsOf (row.map fun p => (p.1, plc order p.2))).map eRn), [some (.lst (T.map eLR)), some (.lst (C.map eN)), some (.lst (order.map eN)), some (.lst (rows.map eLR)), x4, none, x6, none]) := fun x4 x6 => by
      refine lc_all eLR (fun row => .tup ((rsOf (row.map fun p => (p.1, plc order p.2))).map eRn)) rows (fun row hrow => ?_)
      refine ⟨[some (.lst (T.map eLR)), some (.lst (C.map eN)), some (.lst (order.map eN)), some (.lst (rows.map eLR)), x4, some (eLR row), x6, none], by simp, ?_, rfl⟩
      have szt : (row.length < sizeLine) = True := eq_true (sz' _ (by rw [rl _ hrow]; omega))
      have ro := (rsOf_ok (row.map fun p => (p.1, plc order p.2)) (by rw [List.length_map]; exact rl row hrow)).1
      have er : (D.lst (row.map fun p => eBN (p.1, plc order p.2))) = eLR (row.map fun p => (p.1, plc order p.2)) := by
        unfold eLR
        rw [List.map_map]
        rfl
      have cc := c1 x4 (some (eLR row)) x6 row hrow
      have el : (lL (dV 5)) [some (.lst (T.map eLR)), some (.lst (C.map eN)), some (.lst (order.map eN)), some (.lst (rows.map eLR)), x4, some (eLR row), x6, none] = some (row.map eBN, [some (.lst (T.map eLR)), some (.lst (C.map eN)), some (.lst (order.map eN)), some (.lst (rows.map eLR)), x4, some (eLR row), x6, none]) := by simp [eLR]
      simp only [e_dCal, e_aCons, e_dLc, el, Option.bind_some, List.length_map, szt, if_true, wipeD, List.set_cons_succ, List.set_cons_zero, cc, Option.map_some, mixD_nil, e_aNil, er, List.length_cons, List.length_nil, ro]
    have ef : D.tup (rows.map fun row => .tup ((rsOf (row.map fun p => (p.1, plc order p.2))).map eRn)) = eForm (frmOf order rows) := by
      unfold eForm frmOf
      rw [List.map_map, List.map_map]
      rfl
    simp [F_least_of, S_least_of, startD, eC, ix0]
    simp at e
    rw [← bodyLs, e]
    simp [wipeD, szr]
    rw [c2]
    simp [ef]
  · rintro m ρ ⟨order, rows, x4, x5, x6, rfl, hO, hm⟩
    by_cases h : rows.length < order.length
    · refine .inr ⟨by simp; omega, ?_⟩
      obtain ⟨o1, r1, y4, y5, y6, h1, e⟩ := bodyLs_ok W hn hr hl hO h x4 x5 x6
      have a1 := h1.le
      have a2 := h1.olen hl
      rw [List.length_append] at a1
      simp only [List.length_cons, List.length_nil] at a1
      refine ⟨m - 1, _, by omega, e, o1, rows ++ [r1], y4, y5, y6, rfl, h1, by rw [List.length_append]; simp only [List.length_cons, List.length_nil]; omega⟩
    · have := hO.le
      exact .inl ⟨by simp; omega, order, rows, x4, x5, x6, rfl, hO, by omega⟩
  · refine ⟨[C.getD 0 0], [], none, none, none, rfl, ⟨?_, by simp, ?_, by simp, fun j r hj => by simp at hj, fun r hr => by simp at hr⟩, rfl⟩
    · rw [getD_at (C := C) (i := 0) (by omega)]; rfl
    · intro c hc
      simp only [List.mem_singleton] at hc
      subst hc
      exact List.mem_of_getElem? (getD_at (C := C) (i := 0) (by omega))
end
/-! ### the form's machine -/
structure FormOf (R : Rcv) (frm : List (List BN)) (ψ : Rest → Nat) (V : Rest → Prop) : Prop where
  v0 : V (0, none)
  z0 : ψ (0, none) = 0
  ro : ∀ r, V r → RO R.length r
  nx : ∀ r, V r → ∀ s ∈ ST, V (stepR R r s).2
  at_ : ∀ r, V r → ∃ row, frm[ψ r]? = some row ∧ row.length = 27 ∧ ∀ s ∈ ST, row[(s + 13).toNat]? = some ((stepR R r s).1, ψ (stepR R r s).2)
  few : frm.length ≤ 56
  wf : ∀ row ∈ frm, row.length = 27 ∧ ∀ p ∈ row, p.2 < frm.length
theorem p_form {R : Rcv} (G : Good R) : ∃ (frm : List (List BN)) (ψ : Rest → Nat) (V : Rest → Prop), F_form_of [eRc R] = some (eForm frm) ∧ FormOf R frm ψ V := by
  obtain ⟨L, hL, eT⟩ := p_table G
  have hlen := hL.toRMet.len G
  have hT : (L.map (rowOf R L)).length = L.length := by simp
  have hLp : 0 < L.length := (List.getElem?_eq_some_iff.mp hL.hd).1
  have W : WT (L.map (rowOf R L)) := by
    intro row hrow p hp
    obtain ⟨r, hr, rfl⟩ := List.mem_map.mp hrow
    unfold rowOf at hp
    obtain ⟨s, hs, rfl⟩ := List.mem_map.mp hp
    rw [hT]
    exact plc_lt (hL.cl r hr s hs)
  have hr : ∀ row ∈ L.map (rowOf R L), row.length = 27 := by
    intro row hrow
    obtain ⟨r, hr, rfl⟩ := List.mem_map.mp hrow
    unfold rowOf
    rw [List.length_map, ST_len]
  obtain ⟨C, order, rows, hl, hst, hO, hle, eF⟩ := p_least W (by omega) (by omega) hr
  rw [hT] at hl
  have olen := hO.olen (by rw [hT]; exact hl)
  have rl := hO.rlen hr (by rw [hT]; exact hl)
  have hp0 : plc L (0, none) = 0 := plc_at hL.nd hL.hd
  have hC0 : C[0]? = some (C.getD 0 0) := getD_at (by omega)
  have hfl : (frmOf order rows).length = rows.length := by unfold frmOf; simp
  have key : ∀ r, r ∈ L → C.getD (plc L r) 0 ∈ order → rows[plc order (C.getD (plc L r) 0)]? = some (ST.map fun s => ((stepR R r s).1, C.getD (plc L (stepR R r s).2) 0)) := by
    intro r h1 h2
    have k1 := plc_lt h2
    have hk : rows[plc order (C.getD (plc L r) 0)]? = some rows[plc order (C.getD (plc L r) 0)] := List.getElem?_eq_getElem (by omega)
    obtain ⟨c, ec, er⟩ := hO.row _ _ hk
    rw [plc_get h2] at ec
    cases ec
    rw [hk, er]
    have hc := hO.mem _ h2
    have i1 := plc_lt hc
    have i2 := plc_lt h1
    have t1 : (L.map (rowOf R L))[plc C (C.getD (plc L r) 0)]? = some (L.map (rowOf R L))[plc C (C.getD (plc L r) 0)] := List.getElem?_eq_getElem (by omega)
    have t2 : (L.map (rowOf R L))[plc L r]? = some (rowOf R L r) := by rw [List.getElem?_map, plc_get h1]; rfl
    have s := hst _ _ _ _ t1 t2 (by rw [plc_get hc, getD_at (C := C) (i := plc L r) (by omega)])
    unfold rowC
    rw [List.getD_eq_getElem?_getD, t1, Option.getD_some, s]
    unfold sg rowOf
    rw [List.map_map]
    rfl
  have key2 : ∀ r, r ∈ L → C.getD (plc L r) 0 ∈ order → ∀ s ∈ ST, C.getD (plc L (stepR R r s).2) 0 ∈ order := by
    intro r h1 h2 s hs
    exact hO.cl _ (List.mem_of_getElem? (key r h1 h2)) _ (List.mem_map.mpr ⟨s, hs, rfl⟩)
  refine ⟨frmOf order rows, fun r => plc order (C.getD (plc L r) 0), fun r => r ∈ L ∧ C.getD (plc L r) 0 ∈ order, ?_, ⟨?_, ?_, fun r h => hL.ro r h.1, ?_, ?_, ?_, ?_⟩⟩
  · simp [F_form_of, S_form_of, startD]
    rw [eT]
    simp at eF
    simp [eF]
  · refine ⟨List.mem_of_getElem? hL.hd, ?_⟩
    rw [hp0]
    refine List.mem_of_getElem? (i := 0) ?_
    rw [hO.hd, hC0]
  · show plc order (C.getD (plc L (0, none)) 0) = 0
    rw [hp0]
    exact plc_at hO.nd (by rw [hO.hd, hC0])
  · -- the next rest
    intro r ⟨hr1, hr2⟩ s hs
    exact ⟨hL.cl r hr1 s hs, key2 r hr1 hr2 s hs⟩
  · intro r ⟨hr1, hr2⟩
    refine ⟨_, by unfold frmOf; rw [List.getElem?_map, key r hr1 hr2]; rfl, by rw [List.length_map, List.length_map, ST_len], fun s hs => ?_⟩
    have hs' := (mem_ST s).mp hs
    rw [List.getElem?_map, List.getElem?_map, ST_get _ (by omega)]
    rw [show (((s + 13).toNat : Nat) : Int) - 13 = s by omega]
    rfl
  · rw [hfl]; omega
  · intro row hrow
    unfold frmOf at hrow
    obtain ⟨r, hr', rfl⟩ := List.mem_map.mp hrow
    refine ⟨by rw [List.length_map]; exact rl r hr', fun p hp => ?_⟩
    obtain ⟨q, hq, rfl⟩ := List.mem_map.mp hp
    rw [hfl, hle]
    exact plc_lt (hO.cl r hr' q hq)
end DL
end
section
set_option Elab.async false
set_option linter.all false
set_option maxRecDepth 100000
set_option autoImplicit false
/-! The plain law: searches level by level; dicts. -/
namespace DL
open PySem PySem.Spec
open PyProof.Rows hiding St
open L2
/-! ### searching -/
section
variable {κ : Type} {suc : κ → κ → Prop} {bad : κ → Prop} {b0 : κ}
inductive Rch (suc : κ → κ → Prop) (b0 : κ) : Nat → κ → Prop
  | zero : Rch suc b0 0 b0
  | succ {n : Nat} {k k' : κ} (h : Rch suc b0 n k) (s : suc k k') : Rch suc b0 (n + 1) k'
structure Bfs (suc : κ → κ → Prop) (bad : κ → Prop) (b0 : κ) (found level : List κ) (d : Nat) : Prop where
  nd : (found ++ level).Nodup
  dist : ∀ (n : Nat) (k : κ), Rch suc b0 n k → (n ≤ d → k ∈ found ∨ k ∈ level) ∧ (n < d → k ∈ found)
  cl : ∀ k ∈ found, ¬ bad k ∧ ∀ k', suc k k' → k' ∈ found ∨ k' ∈ level
  lev : ∀ k ∈ level, Rch suc b0 d k
  fnd : ∀ k ∈ found, ∃ n, Rch suc b0 n k
  ini : b0 ∈ found ∨ b0 ∈ level
theorem Bfs.start : Bfs suc bad b0 [] [b0] 0 where
  nd := by simp
  dist n k h := by
    cases h with
    | zero => simp
    | succ h s => simp
  cl k hk := by cases hk
  lev k hk := by simp at hk; subst hk; exact .zero
  fnd k hk := by cases hk
  ini := by simp
theorem Bfs.next {found level level' : List κ} {d : Nat} (B : Bfs suc bad b0 found level d) (nd : level'.Nodup) (h1 : ∀ k' ∈ level', k' ∉ found ++ level ∧ ∃ k ∈ level, suc k k')
    (h2 : ∀ k ∈ level, ¬ bad k ∧ ∀ k', suc k k' → k' ∈ found ++ level ∨ k' ∈ level') : Bfs suc bad b0 (found ++ level) level' (d + 1) where
  nd := List.nodup_append.mpr ⟨B.nd, nd, fun a ha b hb e => (h1 b hb).1 (by rw [← e]; exact ha)⟩
  dist n k h := by
    refine ⟨fun hn => ?_, fun hn => ?_⟩
    · rcases Nat.lt_or_ge d n with hd | hd
      · have : n = d + 1 := by omega
        subst this
        cases h with
        | succ h s =>
          rcases (B.dist _ _ h).1 (Nat.le_refl _) with z | z
          · rcases (B.cl _ z).2 _ s with q | q
            · exact .inl (List.mem_append_left _ q)
            · exact .inl (List.mem_append_right _ q)
          · exact (h2 _ z).2 _ s
      · rcases (B.dist n k h).1 hd with q | q
        · exact .inl (List.mem_append_left _ q)
        · exact .inl (List.mem_append_right _ q)
    · rcases (B.dist n k h).1 (by omega) with q | q
      · exact List.mem_append_left _ q
      · exact List.mem_append_right _ q
  cl k hk := by
    rcases List.mem_append.mp hk with z | z
    · refine ⟨(B.cl k z).1, fun k' s => ?_⟩
      rcases (B.cl k z).2 k' s with q | q
      · exact .inl (List.mem_append_left _ q)
      · exact .inl (List.mem_append_right _ q)
    · exact h2 k z
  lev k hk := by
    obtain ⟨_, k0, h0, s⟩ := h1 k hk
    exact .succ (B.lev k0 h0) s
  fnd k hk := by
    rcases List.mem_append.mp hk with z | z
    · exact B.fnd k z
    · exact ⟨d, B.lev k z⟩
  ini := by
    rcases B.ini with z | z
    · exact .inl (List.mem_append_left _ z)
    · exact .inl (List.mem_append_right _ z)
theorem Bfs.done {found : List κ} {d : Nat} (B : Bfs suc bad b0 found [] d) : ∀ (n : Nat) (k : κ), Rch suc b0 n k → k ∈ found ∧ ¬ bad k := by
  intro n k h
  have : k ∈ found := by
    induction h with
    | zero => rcases B.ini with z | z; exact z; cases z
    | succ h s ih => rcases (B.cl _ ih).2 _ s with z | z; exact z; cases z
  exact ⟨this, (B.cl k this).1⟩
end
theorem nodup_code {κ : Type} (code : κ → Nat) (N : Nat) (l : List κ) (nd : l.Nodup) (inj : ∀ a ∈ l, ∀ b ∈ l, code a = code b → a = b) (lt : ∀ a ∈ l, code a < N) : l.length ≤ N := by
  have h : (l.map code).Nodup := by
    refine List.pairwise_map.mpr ?_
    exact List.Pairwise.imp_of_mem (fun ha hb hne e => hne (inj _ ha _ hb e)) nd
  have := nodup_len (l.map code) (List.range N) h fun x hx => by
    obtain ⟨a, ha, rfl⟩ := List.mem_map.mp hx
    exact List.mem_range.mpr (lt a ha)
  rw [List.length_map, List.length_range] at this
  exact this
/-! ### dicts -/
structure KeyE {κ : Type} (e : κ → D) : Prop where
  ok : ∀ k, keyOk (e k) = true
  inj : ∀ a b, nk (e a) = nk (e b) → a = b
section
variable {κ : Type} [DecidableEq κ] {e : κ → D}
theorem nkL_map (f : D → D) : ∀ l : List κ, nkL (l.map e) = l.map fun k => nk (e k)
  | [] => rfl
  | a :: l => by
    show nk (e a) :: nkL (l.map e) = _
    rw [nkL_map f l]
    rfl
theorem hasK_map (E : KeyE e) (l : List κ) (k : κ) : hasK (l.map e) (e k) = decide (k ∈ l) := by
  unfold hasK
  rw [nkL_map id]
  by_cases h : k ∈ l
  · rw [decide_eq_true h, decide_eq_true_eq]
    exact List.mem_map.mpr ⟨k, h, rfl⟩
  · rw [decide_eq_false h, decide_eq_false_iff_not]
    intro z
    obtain ⟨a, ha, q⟩ := List.mem_map.mp z
    exact h (by rw [← E.inj a k q]; exact ha)
theorem gInD_map (E : KeyE e) (neg : Bool) (l : List κ) (ws : List D) (k : κ) : gInD neg (e k) (.dic (l.map e) ws) = some (.bl (if neg then !decide (k ∈ l) else decide (k ∈ l))) := by
  show (if keyOk (e k) then some (D.bl (if neg then !hasK (l.map e) (e k) else hasK (l.map e) (e k))) else none) = _
  rw [E.ok, hasK_map E]
  rfl
/-- a dict of distinct keys, each with a value out of the list -/
structure Dk {α : Type} (key : α → κ) (l : List α) (ks : List κ) (vs : List α) : Prop where
  eq : vs.map key = ks
  nd : ks.Nodup
  sub : ∀ v ∈ vs, v ∈ l
  all : ∀ x ∈ l, key x ∈ ks
def putA {α : Type} (key : α → κ) (vs : List α) (x : α) : List α := if key x ∈ vs.map key then vs.map fun v => if key v = key x then x else v else vs ++ [x]
theorem putA_key {α : Type} (key : α → κ) (vs : List α) (x : α) : (putA key vs x).map key = if key x ∈ vs.map key then vs.map key else vs.map key ++ [key x] := by
  unfold putA
  by_cases h : key x ∈ vs.map key
  · rw [if_pos h, if_pos h, List.map_map]
    refine List.map_congr_left fun v _ => ?_
    show key (if key v = key x then x else v) = key v
    by_cases q : key v = key x
    · rw [if_pos q, q]
    · rw [if_neg q]
  · rw [if_neg h, if_neg h, List.map_append]
    rfl
theorem Dk.put {α : Type} {key : α → κ} {l : List α} {vs : List α} (h : Dk key l (vs.map key) vs) (x : α) : Dk key (l ++ [x]) ((putA key vs x).map key) (putA key vs x) where
  eq := rfl
  nd := by
    rw [putA_key]
    by_cases q : key x ∈ vs.map key
    · rw [if_pos q]; exact h.nd
    · rw [if_neg q]
      refine List.nodup_append.mpr ⟨h.nd, by simp, fun a ha b hb e => q ?_⟩
      simp at hb
      subst hb
      rw [← e]
      exact ha
  sub v hv := by
    unfold putA at hv
    by_cases q : key x ∈ vs.map key
    · rw [if_pos q] at hv
      obtain ⟨u, hu, e⟩ := List.mem_map.mp hv
      by_cases z : key u = key x
      · rw [if_pos z] at e
        subst e
        simp
      · rw [if_neg z] at e
        subst e
        exact List.mem_append_left _ (h.sub u hu)
    · rw [if_neg q] at hv
      rcases List.mem_append.mp hv with z | z
      · exact List.mem_append_left _ (h.sub v z)
      · simp at z
        subst z
        simp
  all y hy := by
    rw [putA_key]
    rcases List.mem_append.mp hy with z | z
    · have := h.all y z
      by_cases q : key x ∈ vs.map key
      · rw [if_pos q]; exact this
      · rw [if_neg q]; exact List.mem_append_left _ this
    · simp at z
      subst z
      by_cases q : key y ∈ vs.map key
      · rw [if_pos q]; exact q
      · rw [if_neg q]; simp
theorem zipW_map {α : Type} (E : KeyE e) (key : α → κ) (val : α → D) (x : α) : ∀ vs : List α, List.zipWith (fun k' w => if nk k' = nk (e (key x)) then val x else w) ((vs.map key).map e) (vs.map val) = (vs.map fun v => if key v = key x then x else v).map val
  | [] => rfl
  | v :: vs => by
    show (if nk (e (key v)) = nk (e (key x)) then val x else val v) :: List.zipWith _ ((vs.map key).map e) (vs.map val) = val (if key v = key x then x else v) :: _
    rw [zipW_map E key val x vs]
    congr 1
    by_cases q : key v = key x
    · rw [if_pos q, if_pos (by rw [q])]
    · rw [if_neg q, if_neg fun z => q (E.inj _ _ z)]
theorem put_map {α : Type} (E : KeyE e) (key : α → κ) (val : α → D) (vs : List α) (x : α) : putK ((vs.map key).map e) (e (key x)) = ((putA key vs x).map key).map e ∧ putW ((vs.map key).map e) (vs.map val) (e (key x)) (val x) = (putA key vs x).map val := by
  unfold putK putW
  rw [hasK_map E, putA_key]
  unfold putA
  by_cases q : key x ∈ vs.map key
  · rw [decide_eq_true q, if_pos rfl, if_pos rfl, if_pos q, if_pos q]
    exact ⟨rfl, zipW_map E key val x vs⟩
  · rw [decide_eq_false q, if_neg q, if_neg q, List.map_append, List.map_append]
    exact ⟨rfl, rfl⟩
/-- a dict comprehension that changes nothing -/
theorem dc_rule {α : Type} (E : KeyE e) (enc : α → D) (key : α → κ) (val : α → D) {vs : List Nat} {g : GD} {fk fv : TD} {ρ0 : DE} : ∀ (l : List α) (pre us : List α), Dk key pre (us.map key) us →
    (∀ x ∈ l, ∃ ρ1, g (enc x) ρ0 = some ρ1 ∧ fk ρ1 = some (e (key x), ρ1) ∧ fv ρ1 = some (val x, ρ1) ∧ wipeD ρ1 vs = ρ0) →
    ∃ us', dcL vs g fk fv (l.map enc) ((us.map key).map e) (us.map val) ρ0 = some (((us'.map key).map e, us'.map val), ρ0) ∧ Dk key (pre ++ l) (us'.map key) us'
  | [], pre, us, h, _ => ⟨us, rfl, by rw [List.append_nil]; exact h⟩
  | x :: l, pre, us, h, hx => by
    obtain ⟨ρ1, e1, e2, e3, e4⟩ := hx x (by simp)
    obtain ⟨us', q1, q2⟩ := dc_rule E enc key val (vs := vs) (g := g) (fk := fk) (fv := fv) (ρ0 := ρ0) l (pre ++ [x]) (putA key us x) (h.put x) fun y hy => hx y (by simp [hy])
    refine ⟨us', ?_, by rw [List.append_assoc] at q2; exact q2⟩
    rw [← q1, ← (put_map E key val us x).1, ← (put_map E key val us x).2]
    show (g (enc x) ρ0).bind _ = _
    rw [e1, Option.bind_some, e2, Option.bind_some, e3, Option.bind_some, if_pos (E.ok _), e4]
theorem dc_new {α : Type} (E : KeyE e) (enc : α → D) (key : α → κ) (val : α → D) {vs : List Nat} {g : GD} {fk fv : TD} {ρ0 : DE} (l : List α)
    (hx : ∀ x ∈ l, ∃ ρ1, g (enc x) ρ0 = some ρ1 ∧ fk ρ1 = some (e (key x), ρ1) ∧ fv ρ1 = some (val x, ρ1) ∧ wipeD ρ1 vs = ρ0) :
    ∃ us, dcL vs g fk fv (l.map enc) [] [] ρ0 = some (((us.map key).map e, us.map val), ρ0) ∧ Dk key l (us.map key) us := by
  obtain ⟨us, h1, h2⟩ := dc_rule E enc key val (vs := vs) (g := g) (fk := fk) (fv := fv) (ρ0 := ρ0) l [] [] ⟨rfl, by simp, by simp, by simp⟩ hx
  exact ⟨us, h1, by simpa using h2⟩
end
end DL
end
section
set_option Elab.async false
set_option linter.all false
set_option maxRecDepth 100000
set_option autoImplicit false
/-! The plain law: two forms side by side; keys_behind. -/
namespace DL
open PySem PySem.Spec
open PyProof.Rows hiding St
open L2
structure WF (frm : List (List BN)) : Prop where
  few : frm.length ≤ 56
  pos : 0 < frm.length
  wf : ∀ row ∈ frm, row.length = 27 ∧ ∀ p ∈ row, p.2 < frm.length
theorem FormOf.WF {R : Rcv} {frm : List (List BN)} {ψ : Rest → Nat} {V : Rest → Prop} (h : FormOf R frm ψ V) : WF frm := by
  refine ⟨h.few, ?_, h.wf⟩
  obtain ⟨row, e, _⟩ := h.at_ _ h.v0
  have := (List.getElem?_eq_some_iff.mp e).1
  omega
def fat (frm : List (List BN)) (p : Nat) (s : Int) : BN := (((frm[p]?).getD [])[(s + 13).toNat]?).getD (false, 0)
section
variable {frm : List (List BN)}
theorem WF.at_ (W : WF frm) {p : Nat} (hp : p < frm.length) {s : Int} (hs : s ∈ ST) : ∃ row, frm[p]? = some row ∧ row.length = 27 ∧ row[(s + 13).toNat]? = some (fat frm p s) ∧ (fat frm p s).2 < frm.length := by
  have e : frm[p]? = some frm[p] := List.getElem?_eq_getElem hp
  have w := W.wf _ (List.getElem_mem hp)
  have hs' := (mem_ST s).mp hs
  have hi : (s + 13).toNat < frm[p].length := by rw [w.1]; omega
  have q : frm[p][(s + 13).toNat]? = some (fat frm p s) := by
    unfold fat
    rw [e, Option.getD_some, List.getElem?_eq_getElem hi]
    rfl
  exact ⟨_, e, w.1, q, w.2 _ (List.mem_of_getElem? q)⟩
theorem p_fat (W : WF frm) {p : Nat} (hp : p < frm.length) {s : Int} (hs : s ∈ ST) : F_run_at [eForm frm, .int (p : Nat), .int s] = some (eBN (fat frm p s)) := by
  obtain ⟨row, e1, e2, e3, _⟩ := W.at_ hp hs
  exact p_runat' e1 e2 hs e3
theorem fat_lt (W : WF frm) {p : Nat} (hp : p < frm.length) {s : Int} (hs : s ∈ ST) : (fat frm p s).2 < frm.length := by
  obtain ⟨_, _, _, _, h⟩ := W.at_ hp hs
  exact h
end
theorem FormOf.fat {R : Rcv} {frm : List (List BN)} {ψ : Rest → Nat} {V : Rest → Prop} (h : FormOf R frm ψ V) {r : Rest} (hv : V r) {s : Int} (hs : s ∈ ST) : DL.fat frm (ψ r) s = ((stepR R r s).1, ψ (stepR R r s).2) := by
  obtain ⟨row, e1, e2, e3⟩ := h.at_ r hv
  unfold DL.fat
  rw [e1, Option.getD_some, e3 s hs]
  rfl
theorem FormOf.lt {R : Rcv} {frm : List (List BN)} {ψ : Rest → Nat} {V : Rest → Prop} (h : FormOf R frm ψ V) {r : Rest} (hv : V r) : ψ r < frm.length := by
  obtain ⟨row, e1, _⟩ := h.at_ r hv
  exact (List.getElem?_eq_some_iff.mp e1).1
/-! ### keys -/
abbrev Ky := Nat × Nat × Nat
def eK (k : Ky) : D := .tup [.int (k.1 : Nat), .int (k.2.1 : Nat), .int (k.2.2 : Nat)]
theorem ke_K : KeyE eK where
  ok k := rfl
  inj a b h := by
    obtain ⟨x, y, z⟩ := a
    obtain ⟨x', y', z'⟩ := b
    simp [eK, nk, nkL] at h
    simp only [Prod.mk.injEq]
    omega
def stepsR (rising : Bool) (a : Nat) : List Int := if rising then (List.range (14 - min (a + 1) 13)).map fun i => (((min (a + 1) 13 + i : Nat)) : Int) else ST
theorem steps_ST {rising : Bool} {a : Nat} {s : Int} (h : s ∈ stepsR rising a) : s ∈ ST := by
  unfold stepsR at h
  cases rising with
  | false => exact h
  | true =>
    simp at h
    obtain ⟨i, hi, rfl⟩ := h
    rw [mem_ST]
    omega
theorem mem_rising {a : Nat} {s : Int} : s ∈ stepsR true a ↔ ((min (a + 1) 13 : Nat) : Int) ≤ s ∧ s ≤ 13 := by
  unfold stepsR
  rw [if_pos rfl, List.mem_map]
  constructor
  · rintro ⟨i, hi, rfl⟩
    rw [List.mem_range] at hi
    omega
  · rintro ⟨h1, h2⟩
    exact ⟨(s - (min (a + 1) 13 : Nat)).toNat, by rw [List.mem_range]; omega, by omega⟩
theorem steps_len (rising : Bool) (a : Nat) : (stepsR rising a).length ≤ 27 := by
  unfold stepsR
  cases rising with
  | false => simp [ST_len]
  | true => simp; omega
theorem rg_small {a b : Int} (h1 : -100 ≤ a) (h2 : a ≤ 100) (h3 : -100 ≤ b) (h4 : b ≤ 100) : rgOk a b = true := by
  have e1 : (2 : Int) ^ 62 = 4611686018427387904 := by decide
  have e2 : 2 ^ 24 = 16777216 := by decide
  unfold rgOk
  rw [e1, e2]
  refine decide_eq_true ⟨?_, ?_, ?_, ?_, ?_⟩ <;> omega
theorem p_next_steps (rising : Bool) (a : Nat) : F_next_steps [.int (a : Nat), .bl rising] = some (.lst ((stepsR rising a).map D.int)) := by
  cases rising with
  | false => simp [F_next_steps, S_next_steps, startD, p_all_steps, stepsR]
  | true =>
    have lo : (if ((a : Int) + 1 < 13) then (a : Int) + 1 else 13) = ((min (a + 1) 13 : Nat) : Int) := by
      by_cases h : (a : Int) + 1 < 13
      · rw [if_pos h]; omega
      · rw [if_neg h]; omega
    obtain ⟨L, hL⟩ : ∃ L : Int, L = ((min (a + 1) 13 : Nat) : Int) := ⟨_, rfl⟩
    have rg : rgOk L 14 = true := by
      refine rg_small ?_ ?_ ?_ ?_ <;> omega
    have e : rgD L 14 = (stepsR true a).map D.int := by
      unfold rgD stepsR
      rw [if_pos rfl, List.map_map, show (14 - L).toNat = 14 - min (a + 1) 13 by omega]
      refine List.map_congr_left fun i _ => ?_
      show D.int _ = D.int _
      rw [hL]
      exact congrArg D.int (Int.natCast_add _ _).symm
    have hF : F_lesser [.int ((a : Int) + 1), .int 13] = some (.int L) := by rw [p_lesser, lo, hL]
    simp [F_next_steps, S_next_steps, startD, hF, rg, e]
def ahd (rising : Bool) (a : Nat) (s : Int) (t : Bool) : Nat := if rising then (if t then 0 else max a s.toNat) else 0
theorem p_ahead {a : Nat} {s : Int} (hs : 0 ≤ s) (t : Bool) : F_ahead_behind [.int (a : Nat), .int s, .bl t] = some (.int (ahd true a s t : Nat)) := by
  cases t with
  | true => simp [F_ahead_behind, S_ahead_behind, startD, ahd]
  | false =>
    simp [F_ahead_behind, S_ahead_behind, startD, ahd, p_greater]
    by_cases h : (a : Int) < s
    · rw [if_pos h]; omega
    · rw [if_neg h]; omega
section
variable (fA fB : List (List BN)) (rising : Bool)
def yA (k : Ky) (s : Int) : Bool := (fat fA k.1 s).1
def yB (k : Ky) (s : Int) : Bool := (fat fB k.2.1 s).1
def nxK (k : Ky) (s : Int) : Ky := ((fat fA k.1 s).2, (fat fB k.2.1 s).2, ahd rising k.2.2 s (fat fA k.1 s).1)
def KOk (k : Ky) : Prop := k.1 < fA.length ∧ k.2.1 < fB.length ∧ k.2.2 ≤ 13
def sucK (k k' : Ky) : Prop := ∃ s ∈ stepsR rising k.2.2, yA fA k s = yB fB k s ∧ k' = nxK fA fB rising k s
def badK (k : Ky) : Prop := ∃ s ∈ stepsR rising k.2.2, yA fA k s = true ∧ yB fB k s = false
def unK (k : Ky) : Prop := ∃ s ∈ stepsR rising k.2.2, yA fA k s ≠ yB fB k s
end
section
variable {fA fB : List (List BN)} {rising : Bool}
theorem nxK_ok (WA : WF fA) (WB : WF fB) {k : Ky} (h : KOk fA fB k) {s : Int} (hs : s ∈ stepsR rising k.2.2) : KOk fA fB (nxK fA fB rising k s) := by
  have hs' := steps_ST hs
  refine ⟨fat_lt WA h.1 hs', fat_lt WB h.2.1 hs', ?_⟩
  show ahd rising k.2.2 s _ ≤ 13
  have h3 := h.2.2
  rw [mem_ST] at hs'
  unfold ahd
  split
  · split
    · omega
    · omega
  · omega
def bodyKb : SD := (sSeq (sTg (dCal 3 F_run_at (aCons (dOp gIx (dV 0) (dC (.int 0))) (aCons (dV 3) (aCons (dV 7) aNil)))) (gT 2 (glC (gN 8) (glC (gN 9) glN))))
    (sSeq (sTg (dCal 3 F_run_at (aCons (dOp gIx (dV 0) (dC (.int 1))) (aCons (dV 4) (aCons (dV 7) aNil)))) (gT 2 (glC (gN 10) (glC (gN 11) glN))))
    (sSeq (sIf (bAnd (dT (dV 8)) (bNot (dT (dV 10)))) (sRet (dC .non)) sNil)
    (sIf (dT (dOp gEq (dV 8) (dV 10))) (sApp 6 (dTup (aCons (dV 9) (aCons (dV 11) (aCons (dIf (dT (dV 2)) (dCal 3 F_ahead_behind (aCons (dV 5) (aCons (dV 7) (aCons (dV 8) aNil)))) (dC (.int 0))) aNil))))) sNil))))
theorem ahead_of {a : Nat} {s : Int} (hs : s ∈ stepsR true a) : 0 ≤ s := by
  rw [mem_rising] at hs
  omega
theorem p_keys_behind (WA : WF fA) (WB : WF fB) {k : Ky} (h : KOk fA fB k) : (badK fA fB rising k ∧ F_keys_behind [.tup [eForm fA, eForm fB], eK k, .bl rising] = some .non) ∨
    (¬ badK fA fB rising k ∧ ∃ l : List Ky, F_keys_behind [.tup [eForm fA, eForm fB], eK k, .bl rising] = some (.lst (l.map eK)) ∧ l.length ≤ 27 ∧ ∀ k', k' ∈ l ↔ sucK fA fB rising k k') := by
  have f := sFor_rule D.int (g := gN 7) (b := bodyKb)
    (fun r ρ => ∃ (pre : List Int) (l : List Ky) (x7 x8 x9 x10 x11 : Option D), stepsR rising k.2.2 = pre ++ r ∧ ρ = [some (.tup [eForm fA, eForm fB]), some (eK k), some (.bl rising), some (.int (k.1 : Nat)), some (.int (k.2.1 : Nat)), some (.int (k.2.2 : Nat)), some (.lst (l.map eK)), x7, x8, x9, x10, x11] ∧
      l.length ≤ pre.length ∧ (∀ s ∈ pre, ¬ (yA fA k s = true ∧ yB fB k s = false)) ∧ ∀ k', k' ∈ l ↔ ∃ s ∈ pre, yA fA k s = yB fB k s ∧ k' = nxK fA fB rising k s)
    (fun d => d = .non ∧ badK fA fB rising k) ?_ (stepsR rising k.2.2)
    [some (.tup [eForm fA, eForm fB]), some (eK k), some (.bl rising), some (.int (k.1 : Nat)), some (.int (k.2.1 : Nat)), some (.int (k.2.2 : Nat)), some (.lst []), none, none, none, none, none] ⟨[], [], none, none, none, none, none, rfl, rfl, by simp, by simp, by simp⟩
  · have ns := p_next_steps rising k.2.2
    have st : F_keys_behind [.tup [eForm fA, eForm fB], eK k, .bl rising] = match (match sForL (gN 7) bodyKb ((stepsR rising k.2.2).map D.int) [some (.tup [eForm fA, eForm fB]), some (eK k), some (.bl rising), some (.int (k.1 : Nat)), some (.int (k.2.1 : Nat)), some (.int (k.2.2 : Nat)), some (.lst []), none, none, none, none, none] with
        | some (.nx ρ) => sRet (dV 6) ρ
        | r => r) with
        | some (.rt d _) => some d
        | some (.nx _) => some .non
        | none => none := by
      simp [F_keys_behind, S_keys_behind, startD, ns, eK]
      rfl
    rw [st]
    rcases f with ⟨ρ', e, pre, l, x7, x8, x9, x10, x11, hp, rfl, h1, h2, h3⟩ | ⟨d, ρ', e, rfl, hb⟩
    · rw [List.append_nil] at hp
      refine .inr ⟨?_, l, ?_, ?_, ?_⟩
      · rintro ⟨s, hs, q⟩
        rw [hp] at hs
        exact h2 s hs q
      · rw [e]
        simp
      · have := steps_len rising k.2.2
        rw [hp] at this
        omega
      · intro k'
        rw [h3 k']
        unfold sucK
        rw [hp]
    · refine .inl ⟨hb, ?_⟩
      rw [e]
  · rintro s r ρ ⟨pre, l, x7, x8, x9, x10, x11, hp, rfl, h1, h2, h3⟩
    have hs : s ∈ stepsR rising k.2.2 := by rw [hp]; simp
    have fa := p_fat WA h.1 (steps_ST hs)
    have fb := p_fat WB h.2.1 (steps_ST hs)
    refine ⟨[some (.tup [eForm fA, eForm fB]), some (eK k), some (.bl rising), some (.int (k.1 : Nat)), some (.int (k.2.1 : Nat)), some (.int (k.2.2 : Nat)), some (.lst (l.map eK)), some (.int s), x8, x9, x10, x11], by simp, ?_⟩
    have hlen : l.length ≤ 27 := by
      have := steps_len rising k.2.2
      rw [hp, List.length_append] at this
      omega
    have szl : (l.length < sizeLine) = True := eq_true (sz' _ (by omega))
    have app : yA fA k s = yB fB k s → bodyKb [some (.tup [eForm fA, eForm fB]), some (eK k), some (.bl rising), some (.int (k.1 : Nat)), some (.int (k.2.1 : Nat)), some (.int (k.2.2 : Nat)), some (.lst (l.map eK)), some (.int s), x8, x9, x10, x11] =
        some (.nx [some (.tup [eForm fA, eForm fB]), some (eK k), some (.bl rising), some (.int (k.1 : Nat)), some (.int (k.2.1 : Nat)), some (.int (k.2.2 : Nat)), some (.lst ((l ++ [nxK fA fB rising k s]).map eK)), some (.int s), some (.bl (yA fA k s)), some (.int ((fat fA k.1 s).2 : Nat)), some (.bl (yB fB k s)), some (.int ((fat fB k.2.1 s).2 : Nat))]) := by
      intro hab
      unfold yA yB at hab ⊢
      cases rising with
      | true =>
        have pa := p_ahead (a := k.2.2) (ahead_of hs) (fat fA k.1 s).1
        cases hta : (fat fA k.1 s).1 <;> rw [hta] at hab pa <;> simp [bodyKb, fa, fb, eBN, hta, ← hab, szl, pa, nxK, eK]
      | false =>
        cases hta : (fat fA k.1 s).1 <;> rw [hta] at hab <;> simp [bodyKb, fa, fb, eBN, hta, ← hab, szl, nxK, eK, ahd]
    by_cases hab : yA fA k s = yB fB k s
    · refine .inl ⟨_, app hab, pre ++ [s], l ++ [nxK fA fB rising k s], _, _, _, _, _, by simp [hp], rfl, by simp [h1], ?_, ?_⟩
      · intro t ht
        rcases List.mem_append.mp ht with z | z
        · exact h2 t z
        · simp at z
          subst z
          rintro ⟨q1, q2⟩
          rw [q1, q2] at hab
          cases hab
      · intro k'
        rw [List.mem_append, h3 k']
        constructor
        · rintro (⟨t, ht, q⟩ | z)
          · exact ⟨t, List.mem_append_left _ ht, q⟩
          · simp at z
            exact ⟨s, by simp, hab, z⟩
        · rintro ⟨t, ht, q⟩
          rcases List.mem_append.mp ht with z | z
          · exact .inl ⟨t, z, q⟩
          · simp at z
            subst z
            exact .inr (by rw [q.2]; simp)
    · cases ta : yA fA k s with
      | true =>
        have tb : yB fB k s = false := by
          cases q : yB fB k s
          · rfl
          · rw [ta, q] at hab; exact absurd rfl hab
        refine .inr ⟨.non, [some (.tup [eForm fA, eForm fB]), some (eK k), some (.bl rising), some (.int (k.1 : Nat)), some (.int (k.2.1 : Nat)), some (.int (k.2.2 : Nat)), some (.lst (l.map eK)), some (.int s), some (.bl true), some (.int ((fat fA k.1 s).2 : Nat)), some (.bl false), some (.int ((fat fB k.2.1 s).2 : Nat))], ?_, rfl, s, hs, ta, tb⟩
        unfold yA at ta
        unfold yB at tb
        simp [bodyKb, fa, fb, eBN, ta, tb]
      | false =>
        have tb : yB fB k s = true := by
          cases q : yB fB k s
          · rw [ta, q] at hab; exact absurd rfl hab
          · rfl
        refine .inl ⟨[some (.tup [eForm fA, eForm fB]), some (eK k), some (.bl rising), some (.int (k.1 : Nat)), some (.int (k.2.1 : Nat)), some (.int (k.2.2 : Nat)), some (.lst (l.map eK)), some (.int s), some (.bl false), some (.int ((fat fA k.1 s).2 : Nat)), some (.bl true), some (.int ((fat fB k.2.1 s).2 : Nat))], ?_, pre ++ [s], l, _, _, _, _, _, by simp [hp], rfl, by simp; omega, ?_, ?_⟩
        · have ta' : (fat fA k.1 s).1 = false := ta
          have tb' : (fat fB k.2.1 s).1 = true := tb
          simp [bodyKb, fa, fb, eBN, ta', tb']
        · intro t ht
          rcases List.mem_append.mp ht with z | z
          · exact h2 t z
          · simp at z
            subst z
            rw [ta]
            simp
        · intro k'
          rw [h3 k']
          constructor
          · rintro ⟨t, ht, q⟩
            exact ⟨t, List.mem_append_left _ ht, q⟩
          · rintro ⟨t, ht, q⟩
            rcases List.mem_append.mp ht with z | z
            · exact ⟨t, z, q⟩
            · simp at z
              subst z
              exact absurd q.1 hab
end
end DL
end
section
set_option Elab.async false
set_option linter.all false
set_option maxRecDepth 100000
set_option autoImplicit false
/-! The plain law: below. -/
namespace DL
open PySem PySem.Spec
open PyProof.Rows hiding St
open L2
section
variable {fA fB : List (List BN)} {rising : Bool}
def codeK (k : Ky) : Nat := (k.1 * 56 + k.2.1) * 14 + k.2.2
theorem keys_len (WA : WF fA) (WB : WF fB) {l : List Ky} (nd : l.Nodup) (ok : ∀ k ∈ l, KOk fA fB k) : l.length ≤ 43904 := by
  have a := WA.few
  have b := WB.few
  refine nodup_code codeK 43904 l nd (fun x hx y hy e => ?_) fun x hx => ?_
  · have h1 := ok x hx
    have h2 := ok y hy
    obtain ⟨x1, x2, x3⟩ := x
    obtain ⟨y1, y2, y3⟩ := y
    unfold KOk at h1 h2
    unfold codeK at e
    simp only [Prod.mk.injEq]
    simp only at h1 h2 e
    omega
  · have h1 := ok x hx
    obtain ⟨x1, x2, x3⟩ := x
    unfold KOk at h1
    unfold codeK
    simp only at h1 ⊢
    omega
def bodyBe : SD := (sSeq (sSet 9 (dCal 3 F_keys_behind (aCons (dV 3) (aCons (dV 6) (aCons (dV 2) aNil)))))
    (sSeq (sIf (dT (dOp gIs (dV 9) (dC .non))) (sRet (dC (.bl false))) sNil)
    (sExt 8 (dLc [8] [10] (lL (dV 9)) (gN 10) (dT (dOp (gInD true) (dV 10) (dV 7))) (dV 10)))))
def bodyBw : SD := (sSeq (sSet 5 (dOp gAdd (dV 5) (dV 4)))
    (sSeq (sSet 7 (dDc [] [6] (lL (dV 5)) (gN 6) (dV 6) (dC (.bl true))))
    (sSeq (sSet 8 (dLst aNil))
    (sSeq (sFor (lL (dV 4)) (gN 6) bodyBe)
    (sSet 4 (dCb gListD (aCons (dDc [] [6] (lL (dV 8)) (gN 6) (dV 6) (dC (.bl true))) aNil)))))))
variable {A B : D}
theorem be_loop (WA : WF fA) (WB : WF fB) (level found ks : List Ky) (ws : List D) (hks : ∀ k, k ∈ ks ↔ k ∈ found) (hl : level.length ≤ 43904) (ok : ∀ k ∈ level, KOk fA fB k) (x6 x9 : Option D) :
    (∃ (beh : List Ky) (y6 y9 : Option D), sForL (gN 6) bodyBe (level.map eK) [some A, some B, some (.bl rising), some (.tup [eForm fA, eForm fB]), some (.lst (level.map eK)), some (.lst (found.map eK)), x6, some (.dic (ks.map eK) ws), some (.lst []), x9, none] =
        some (.nx [some A, some B, some (.bl rising), some (.tup [eForm fA, eForm fB]), some (.lst (level.map eK)), some (.lst (found.map eK)), y6, some (.dic (ks.map eK) ws), some (.lst (beh.map eK)), y9, none]) ∧ beh.length ≤ 27 * 43904 ∧ (∀ k ∈ level, ¬ badK fA fB rising k) ∧ ∀ k', k' ∈ beh ↔ k' ∉ found ∧ ∃ k ∈ level, sucK fA fB rising k k') ∨
    (∃ ρ', sForL (gN 6) bodyBe (level.map eK) [some A, some B, some (.bl rising), some (.tup [eForm fA, eForm fB]), some (.lst (level.map eK)), some (.lst (found.map eK)), x6, some (.dic (ks.map eK) ws), some (.lst []), x9, none] = some (.rt (.bl false) ρ') ∧ ∃ k ∈ level, badK fA fB rising k) := by
  have f := sFor_rule eK (g := gN 6) (b := bodyBe)
    (fun r ρ => ∃ (pre beh : List Ky) (y6 y9 : Option D), level = pre ++ r ∧ ρ = [some A, some B, some (.bl rising), some (.tup [eForm fA, eForm fB]), some (.lst (level.map eK)), some (.lst (found.map eK)), y6, some (.dic (ks.map eK) ws), some (.lst (beh.map eK)), y9, none] ∧
      beh.length ≤ 27 * pre.length ∧ (∀ k ∈ pre, ¬ badK fA fB rising k) ∧ ∀ k', k' ∈ beh ↔ k' ∉ found ∧ ∃ k ∈ pre, sucK fA fB rising k k')
    (fun d => d = .bl false ∧ ∃ k ∈ level, badK fA fB rising k) ?_ level _ ⟨[], [], x6, x9, rfl, rfl, by simp, by simp, by simp⟩
  · rcases f with ⟨ρ', e, pre, beh, y6, y9, hp, rfl, h1, h2, h3⟩ | ⟨d, ρ', e, rfl, hb⟩
    · rw [List.append_nil] at hp
      subst hp
      exact .inl ⟨beh, y6, y9, e, by omega, h2, h3⟩
    · exact .inr ⟨ρ', e, hb⟩
  · rintro k r ρ ⟨pre, beh, y6, y9, hp, rfl, h1, h2, h3⟩
    have hk : k ∈ level := by rw [hp]; simp
    have hpl : pre.length + 1 ≤ level.length := by rw [hp]; simp
    refine ⟨[some A, some B, some (.bl rising), some (.tup [eForm fA, eForm fB]), some (.lst (level.map eK)), some (.lst (found.map eK)), some (eK k), some (.dic (ks.map eK) ws), some (.lst (beh.map eK)), y9, none], by simp, ?_⟩
    rcases p_keys_behind (rising := rising) WA WB (ok k hk) with ⟨hb, e⟩ | ⟨hb, l, e, hl27, hs⟩
    · refine .inr ⟨.bl false, [some A, some B, some (.bl rising), some (.tup [eForm fA, eForm fB]), some (.lst (level.map eK)), some (.lst (found.map eK)), some (eK k), some (.dic (ks.map eK) ws), some (.lst (beh.map eK)), some .non, none], ?_, rfl, k, hk, hb⟩
      simp [bodyBe, e]
    · have c : lcL [10] (gN 10) (dT (dOp (gInD true) (dV 10) (dV 7))) (dV 10) (l.map eK) [some A, some B, some (.bl rising), some (.tup [eForm fA, eForm fB]), some (.lst (level.map eK)), some (.lst (found.map eK)), some (eK k), some (.dic (ks.map eK) ws), some (.lst (beh.map eK)), some (.lst (l.map eK)), none] =
          some ((l.filter fun x => !decide (x ∈ ks)).map eK, [some A, some B, some (.bl rising), some (.tup [eForm fA, eForm fB]), some (.lst (level.map eK)), some (.lst (found.map eK)), some (eK k), some (.dic (ks.map eK) ws), some (.lst (beh.map eK)), some (.lst (l.map eK)), none]) := by
        refine lc_fix eK (fun x => !decide (x ∈ ks)) eK l fun x hx => ⟨[some A, some B, some (.bl rising), some (.tup [eForm fA, eForm fB]), some (.lst (level.map eK)), some (.lst (found.map eK)), some (eK k), some (.dic (ks.map eK) ws), some (.lst (beh.map eK)), some (.lst (l.map eK)), some (eK x)], by simp, ?_, fun _ => by simp, rfl⟩
        simp [gInD_map ke_K]
      have hfl : (l.filter fun x => !decide (x ∈ ks)).length ≤ 27 := Nat.le_trans (List.length_filter_le _ _) hl27
      have szl : (l.length < sizeLine) = True := eq_true (sz' _ (by omega))
      have sze : (beh.length + (l.filter fun x => !decide (x ∈ ks)).length ≤ sizeLine) = True := eq_true (sz _ (by omega))
      refine .inl ⟨[some A, some B, some (.bl rising), some (.tup [eForm fA, eForm fB]), some (.lst (level.map eK)), some (.lst (found.map eK)), some (eK k), some (.dic (ks.map eK) ws), some (.lst ((beh ++ l.filter fun x => !decide (x ∈ ks)).map eK)), some (.lst (l.map eK)), none], ?_, pre ++ [k], _, _, _, by simp [hp], rfl, ?_, ?_, ?_⟩
      · have sze' : (beh.length + ((l.filter fun x => !decide (x ∈ ks)).map eK).length ≤ sizeLine) = True := by rw [List.length_map]; exact sze
        simp [bodyBe, e, wipeD, szl]
        rw [c]
        simp [mixD, sze']
        simp at sze
        simp [sze]
      · rw [List.length_append, List.length_append]
        simp only [List.length_cons, List.length_nil]
        omega
      · intro x hx
        rcases List.mem_append.mp hx with z | z
        · exact h2 x z
        · simp at z
          subst z
          exact hb
      · intro k'
        rw [List.mem_append, h3 k', List.mem_filter]
        constructor
        · rintro (⟨q1, y, hy, q2⟩ | ⟨q1, q2⟩)
          · exact ⟨q1, y, List.mem_append_left _ hy, q2⟩
          · refine ⟨?_, k, by simp, (hs k').mp q1⟩
            simp at q2
            exact fun z => q2 ((hks k').mpr z)
        · rintro ⟨q1, y, hy, q2⟩
          rcases List.mem_append.mp hy with z | z
          · exact .inl ⟨q1, y, z, q2⟩
          · simp at z
            subst z
            refine .inr ⟨(hs k').mpr q2, ?_⟩
            simp
            exact fun z => q1 ((hks k').mp z)
theorem Dk.iff {l : List Ky} {us : List Ky} (h : Dk id l (us.map id) us) (k : Ky) : k ∈ us ↔ k ∈ l := by
  constructor
  · exact h.sub k
  · intro hk
    have := h.all k hk
    simpa using this
theorem be_body (WA : WF fA) (WB : WF fB) {found level : List Ky} {d : Nat} (Bf : Bfs (sucK fA fB rising) (badK fA fB rising) (0, 0, 0) found level d) (ok : ∀ k ∈ found ++ level, KOk fA fB k) (x6 x7 x8 x9 : Option D) :
    (∃ (level' : List Ky) (y6 y7 y8 y9 : Option D), bodyBw [some A, some B, some (.bl rising), some (.tup [eForm fA, eForm fB]), some (.lst (level.map eK)), some (.lst (found.map eK)), x6, x7, x8, x9, none] =
        some (.nx [some A, some B, some (.bl rising), some (.tup [eForm fA, eForm fB]), some (.lst (level'.map eK)), some (.lst ((found ++ level).map eK)), y6, y7, y8, y9, none]) ∧ Bfs (sucK fA fB rising) (badK fA fB rising) (0, 0, 0) (found ++ level) level' (d + 1) ∧ ∀ k ∈ level', KOk fA fB k) ∨
    (∃ ρ', bodyBw [some A, some B, some (.bl rising), some (.tup [eForm fA, eForm fB]), some (.lst (level.map eK)), some (.lst (found.map eK)), x6, x7, x8, x9, none] = some (.rt (.bl false) ρ') ∧ ∃ k ∈ level, badK fA fB rising k) := by
  have nl := keys_len WA WB Bf.nd ok
  have nl' := nl
  rw [List.length_append] at nl'
  have szf : (found.length + level.length ≤ sizeLine) = True := eq_true (sz _ (by omega))
  have szf' : (found.length + level.length < sizeLine) = True := eq_true (sz' _ (by omega))
  obtain ⟨us, c1, hk1⟩ := dc_new ke_K eK id (fun _ => D.bl true) (vs := [6]) (g := gN 6) (fk := dV 6) (fv := dC (.bl true))
    (ρ0 := [some A, some B, some (.bl rising), some (.tup [eForm fA, eForm fB]), some (.lst (level.map eK)), some (.lst ((found ++ level).map eK)), none, x7, x8, x9, none]) (found ++ level)
    fun x hx => ⟨[some A, some B, some (.bl rising), some (.tup [eForm fA, eForm fB]), some (.lst (level.map eK)), some (.lst ((found ++ level).map eK)), some (eK x), x7, x8, x9, none], by simp, by simp, by simp, rfl⟩
  rw [List.map_id] at c1
  have lo := be_loop (A := A) (B := B) (rising := rising) WA WB level (found ++ level) us (us.map fun _ => D.bl true) hk1.iff (by omega) (fun k hk => ok k (List.mem_append_right _ hk)) x6 x9
  rcases lo with ⟨beh, y6, y9, e, hb27, hnb, hbe⟩ | ⟨ρ', e, hb⟩
  · have szb : (beh.length < sizeLine) = True := eq_true (sz' _ (by omega))
    obtain ⟨vs, c2, hk2⟩ := dc_new ke_K eK id (fun _ => D.bl true) (vs := [6]) (g := gN 6) (fk := dV 6) (fv := dC (.bl true))
      (ρ0 := [some A, some B, some (.bl rising), some (.tup [eForm fA, eForm fB]), some (.lst (level.map eK)), some (.lst ((found ++ level).map eK)), none, some (.dic (us.map eK) (us.map fun _ => D.bl true)), some (.lst (beh.map eK)), y9, none]) beh
      fun x hx => ⟨[some A, some B, some (.bl rising), some (.tup [eForm fA, eForm fB]), some (.lst (level.map eK)), some (.lst ((found ++ level).map eK)), some (eK x), some (.dic (us.map eK) (us.map fun _ => D.bl true)), some (.lst (beh.map eK)), y9, none], by simp, by simp, by simp, rfl⟩
    rw [List.map_id] at c2
    refine .inl ⟨vs, y6, some (.dic (us.map eK) (us.map fun _ => D.bl true)), some (.lst (beh.map eK)), y9, ?_, Bf.next ?_ ?_ ?_, ?_⟩
    rotate_right
    · intro k hk
      obtain ⟨q1, k0, hk0, s, hs, _, rfl⟩ := (hbe k).mp ((hk2.iff k).mp hk)
      exact nxK_ok WA WB (ok k0 (List.mem_append_right _ hk0)) hs
    · simp [bodyBw, szf, szf', wipeD]
      simp at c1
      rw [c1]
      simp
      simp at e
      rw [e]
      simp [wipeD, szb]
      simp at c2
      rw [c2]
      simp
    · have := hk2.nd
      simpa using this
    · intro k' hk'
      obtain ⟨q1, k0, hk0, s⟩ := (hbe k').mp ((hk2.iff k').mp hk')
      exact ⟨q1, k0, hk0, s⟩
    · intro k hk
      refine ⟨hnb k hk, fun k' s => ?_⟩
      by_cases z : k' ∈ found ++ level
      · exact .inl z
      · exact .inr ((hk2.iff k').mpr ((hbe k').mpr ⟨z, k, hk, s⟩))
  · refine .inr ⟨ρ', ?_, hb⟩
    simp [bodyBw, szf, szf', wipeD]
    simp at c1
    rw [c1]
    simp
    simp at e
    rw [e]
theorem p_below_form (WA : WF fA) (WB : WF fB) (hA : F_form_of [A] = some (eForm fA)) (hB : F_form_of [B] = some (eForm fB)) : ∃ b : Bool, F_below [A, B, .bl rising] = some (.bl b) ∧
    (b = true ↔ ∀ n k, Rch (sucK fA fB rising) (0, 0, 0) n k → ¬ badK fA fB rising k) := by
  have w := sWh_rule (c := dT (dNN (dV 4))) (b := bodyBw)
    (fun m ρ => ∃ (found level : List Ky) (d : Nat) (x6 x7 x8 x9 : Option D), ρ = [some A, some B, some (.bl rising), some (.tup [eForm fA, eForm fB]), some (.lst (level.map eK)), some (.lst (found.map eK)), x6, x7, x8, x9, none] ∧
      Bfs (sucK fA fB rising) (badK fA fB rising) (0, 0, 0) found level d ∧ (∀ k ∈ found ++ level, KOk fA fB k) ∧ m + found.length = 43905)
    (fun _ => ∀ n k, Rch (sucK fA fB rising) (0, 0, 0) n k → ¬ badK fA fB rising k)
    (fun r => r = .bl false ∧ ∃ n k, Rch (sucK fA fB rising) (0, 0, 0) n k ∧ badK fA fB rising k) ?_ FU 43905
    [some A, some B, some (.bl rising), some (.tup [eForm fA, eForm fB]), some (.lst ([(0, 0, 0)].map eK)), some (.lst []), none, none, none, none, none] ?_ (by decide)
  · have e0 : D.lst ([((0 : Nat), (0 : Nat), (0 : Nat))].map eK) = .lst [.tup [.int 0, .int 0, .int 0]] := rfl
    rw [e0] at w
    rcases w with ⟨ρ', e, h⟩ | ⟨d, ρ', e, rfl, n, k, h1, h2⟩
    · refine ⟨true, ?_, by simp; exact fun n x y z => h n (x, y, z)⟩
      simp [F_below, S_below, startD, hA, hB]
      rw [← bodyBe, ← bodyBw, e]
    · refine ⟨false, ?_, ?_⟩
      · simp [F_below, S_below, startD, hA, hB]
        rw [← bodyBe, ← bodyBw, e]
      · constructor
        · intro z; cases z
        · intro z; exact absurd h2 (z n k h1)
  · rintro m ρ ⟨found, level, d, x6, x7, x8, x9, rfl, Bf, ok, hm⟩
    cases hlv : level with
    | nil =>
      subst hlv
      exact .inl ⟨by simp, fun n k h => (Bf.done n k h).2⟩
    | cons k0 l0 =>
      rw [← hlv]
      have hne : 0 < level.length := by rw [hlv]; simp
      have nl := keys_len WA WB Bf.nd ok
      rw [List.length_append] at nl
      refine .inr ⟨by rw [hlv]; simp, ?_⟩
      rcases be_body (A := A) (B := B) WA WB Bf ok x6 x7 x8 x9 with ⟨level', y6, y7, y8, y9, e, Bf', ok'⟩ | ⟨ρ', e, k, hk, hb⟩
      · refine .inl ⟨m - level.length, _, by omega, e, found ++ level, level', d + 1, y6, y7, y8, y9, rfl, Bf', fun k hk => ?_, by rw [List.length_append]; omega⟩
        rcases List.mem_append.mp hk with z | z
        · exact ok k z
        · exact ok' k z
      · exact .inr ⟨_, ρ', e, rfl, d, k, Bf.lev k hk, hb⟩
  · refine ⟨[], [(0, 0, 0)], 0, none, none, none, none, rfl, Bfs.start, ?_, rfl⟩
    intro k hk
    simp at hk
    subst hk
    exact ⟨WA.pos, WB.pos, Nat.zero_le _⟩
end
end DL
end
section
set_option Elab.async false
set_option linter.all false
set_option maxRecDepth 100000
set_option autoImplicit false
/-! The plain law: pairs_behind, pairs_met. -/
namespace DL
open PySem PySem.Spec
open PyProof.Rows hiding St
open L2
abbrev Pr := Rest × Rest
def eP (p : Pr) : D := .tup [eRest p.1, eRest p.2]
theorem en_P : EnOk eP 2 := en_rest.pair en_rest
theorem ke_P : KeyE eP where
  ok p := by
    obtain ⟨⟨a, g⟩, ⟨b, h⟩⟩ := p
    cases g <;> cases h <;> rfl
  inj p q e := by
    obtain ⟨⟨a, g⟩, ⟨b, h⟩⟩ := p
    obtain ⟨⟨a', g'⟩, ⟨b', h'⟩⟩ := q
    cases g <;> cases h <;> cases g' <;> cases h' <;> simp [eP, eRest, nk, nkL] at e <;> simp <;> omega
section
variable {A B : Rcv}
def sucP (A B : Rcv) (p p' : Pr) : Prop := ∃ s ∈ ST, (stepR A p.1 s).1 = (stepR B p.2 s).1 ∧ p' = ((stepR A p.1 s).2, (stepR B p.2 s).2)
def badP (A B : Rcv) (p : Pr) : Prop := ∃ s ∈ ST, (stepR A p.1 s).1 ≠ (stepR B p.2 s).1
def POk (A B : Rcv) (p : Pr) : Prop := RO A.length p.1 ∧ RO B.length p.2
theorem ix_P0 (p : Pr) : gIx (eP p) (.int 0) = some (eRest p.1) := rfl
theorem ix_P1 (p : Pr) : gIx (eP p) (.int 1) = some (eRest p.2) := rfl
def bodyPb : SD := (sSeq (sTg (dCal 3 F_step_from (aCons (dV 0) (aCons (dOp gIx (dV 2) (dC (.int 0))) (aCons (dV 4) aNil)))) (gT 2 (glC (gN 5) (glC (gN 6) glN))))
    (sSeq (sTg (dCal 3 F_step_from (aCons (dV 1) (aCons (dOp gIx (dV 2) (dC (.int 1))) (aCons (dV 4) aNil)))) (gT 2 (glC (gN 7) (glC (gN 8) glN))))
    (sSeq (sIf (dT (dOp gNe (dV 5) (dV 7))) (sRet (dC .non)) sNil)
    (sApp 3 (dTup (aCons (dV 6) (aCons (dV 8) aNil)))))))
theorem p_pairs_behind (A B : Rcv) {p : Pr} (h : POk A B p) : (badP A B p ∧ F_pairs_behind [eRc A, eRc B, eP p] = some .non) ∨
    (¬ badP A B p ∧ ∃ l : List Pr, F_pairs_behind [eRc A, eRc B, eP p] = some (.lst (l.map eP)) ∧ l.length ≤ 27 ∧ ∀ p', p' ∈ l ↔ sucP A B p p') := by
  have f := sFor_rule D.int (g := gN 4) (b := bodyPb)
    (fun r ρ => ∃ (pre : List Int) (l : List Pr) (x4 x5 x6 x7 x8 : Option D), ST = pre ++ r ∧ ρ = [some (eRc A), some (eRc B), some (eP p), some (.lst (l.map eP)), x4, x5, x6, x7, x8] ∧ l.length ≤ pre.length ∧
      (∀ s ∈ pre, (stepR A p.1 s).1 = (stepR B p.2 s).1) ∧ ∀ p', p' ∈ l ↔ ∃ s ∈ pre, (stepR A p.1 s).1 = (stepR B p.2 s).1 ∧ p' = ((stepR A p.1 s).2, (stepR B p.2 s).2))
    (fun d => d = .non ∧ badP A B p) ?_ ST [some (eRc A), some (eRc B), some (eP p), some (.lst []), none, none, none, none, none] ⟨[], [], none, none, none, none, none, rfl, rfl, by simp, by simp, by simp⟩
  · have st : F_pairs_behind [eRc A, eRc B, eP p] = match (match sForL (gN 4) bodyPb (ST.map D.int) [some (eRc A), some (eRc B), some (eP p), some (.lst []), none, none, none, none, none] with
        | some (.nx ρ) => sRet (dV 3) ρ
        | r => r) with
        | some (.rt d _) => some d
        | some (.nx _) => some .non
        | none => none := by
      simp [F_pairs_behind, S_pairs_behind, startD, p_all_steps]
      rfl
    rw [st]
    rcases f with ⟨ρ', e, pre, l, x4, x5, x6, x7, x8, hp, rfl, h1, h2, h3⟩ | ⟨d, ρ', e, rfl, hb⟩
    · rw [List.append_nil] at hp
      refine .inr ⟨?_, l, ?_, ?_, ?_⟩
      · rintro ⟨s, hs, q⟩
        rw [hp] at hs
        exact q (h2 s hs)
      · rw [e]
        simp
      · have := ST_len
        rw [hp] at this
        omega
      · intro p'
        rw [h3 p']
        unfold sucP
        rw [hp]
    · refine .inl ⟨hb, ?_⟩
      rw [e]
  · rintro s r ρ ⟨pre, l, x4, x5, x6, x7, x8, hp, rfl, h1, h2, h3⟩
    have hs : s ∈ ST := by rw [hp]; simp
    have fa := p_step A p.1 s h.1.1
    have fb := p_step B p.2 s h.2.1
    have hlen : l.length ≤ 27 := by
      have := ST_len
      rw [hp, List.length_append] at this
      omega
    have szl : (l.length < sizeLine) = True := eq_true (sz' _ (by omega))
    refine ⟨[some (eRc A), some (eRc B), some (eP p), some (.lst (l.map eP)), some (.int s), x5, x6, x7, x8], by simp, ?_⟩
    by_cases hab : (stepR A p.1 s).1 = (stepR B p.2 s).1
    · refine .inl ⟨[some (eRc A), some (eRc B), some (eP p), some (.lst ((l ++ [((stepR A p.1 s).2, (stepR B p.2 s).2)]).map eP)), some (.int s), some (.bl (stepR A p.1 s).1), some (eRest (stepR A p.1 s).2), some (.bl (stepR B p.2 s).1), some (eRest (stepR B p.2 s).2)], ?_, pre ++ [s], _, _, _, _, _, _, by simp [hp], rfl, by simp [h1], ?_, ?_⟩
      · have hnd : (!decide ((stepR A p.1 s).1 = (stepR B p.2 s).1)) = false := by simp [hab]
        have hP : eP ((stepR A p.1 s).2, (stepR B p.2 s).2) = .tup [eRest (stepR A p.1 s).2, eRest (stepR B p.2 s).2] := rfl
        simp [bodyPb, ix_P0, ix_P1, fa, fb, eStep, hnd, szl, hP, hab]
      · intro t ht
        rcases List.mem_append.mp ht with z | z
        · exact h2 t z
        · simp at z
          subst z
          exact hab
      · intro k'
        rw [List.mem_append, h3 k']
        constructor
        · rintro (⟨t, ht, q⟩ | z)
          · exact ⟨t, List.mem_append_left _ ht, q⟩
          · simp at z
            exact ⟨s, by simp, hab, z⟩
        · rintro ⟨t, ht, q⟩
          rcases List.mem_append.mp ht with z | z
          · exact .inl ⟨t, z, q⟩
          · simp at z
            subst z
            exact .inr (by rw [q.2]; simp)
    · refine .inr ⟨.non, [some (eRc A), some (eRc B), some (eP p), some (.lst (l.map eP)), some (.int s), some (.bl (stepR A p.1 s).1), some (eRest (stepR A p.1 s).2), some (.bl (stepR B p.2 s).1), some (eRest (stepR B p.2 s).2)], ?_, rfl, s, hs, hab⟩
      simp [bodyPb, ix_P0, ix_P1, fa, fb, eStep, hab]
theorem sucP_ok (GA : Good A) (GB : Good B) {p p' : Pr} (h : POk A B p) (s : sucP A B p p') : POk A B p' := by
  obtain ⟨t, ht, _, rfl⟩ := s
  exact ⟨stepR_ok GA h.1 t, stepR_ok GB h.2 t⟩
theorem pairs_len (GA : Good A) (GB : Good B) {l : List Pr} (nd : l.Nodup) (ok : ∀ p ∈ l, POk A B p) : l.length ≤ 3136 := by
  have lt : ∀ {n : Nat} {r : Rest}, n ≤ 4 → RO n r → plc univR r < 56 := fun hn h => by
    have := plc_lt (mem_univR hn h)
    rw [univR_len] at this
    exact this
  refine nodup_code (fun p : Pr => plc univR p.1 * 56 + plc univR p.2) 3136 l nd (fun x hx y hy e => ?_) fun x hx => ?_
  · have h1 := ok x hx
    have h2 := ok y hy
    have a1 := lt GA.le h1.1
    have a2 := lt GB.le h1.2
    have b1 := lt GA.le h2.1
    have b2 := lt GB.le h2.2
    have e1 : plc univR x.1 = plc univR y.1 := by omega
    have e2 : plc univR x.2 = plc univR y.2 := by omega
    have c1 := plc_get (mem_univR GA.le h1.1)
    have c2 := plc_get (mem_univR GB.le h1.2)
    rw [e1, plc_get (mem_univR GA.le h2.1)] at c1
    rw [e2, plc_get (mem_univR GB.le h2.2)] at c2
    exact Prod.ext (Option.some.inj c1).symm (Option.some.inj c2).symm
  · have h1 := ok x hx
    have a1 := lt GA.le h1.1
    have a2 := lt GB.le h1.2
    omega
def bodyPe : SD := (sSeq (sSet 8 (dCal 3 F_pairs_behind (aCons (dV 0) (aCons (dV 1) (aCons (dV 5) aNil)))))
    (sSeq (sIf (dT (dOp gIs (dV 8) (dC .non))) (sRet (dC .non)) sNil)
    (sExt 7 (dLc [7] [9] (lL (dV 8)) (gN 9) (dT (dOp (gInD true) (dV 9) (dV 6))) (dV 9)))))
def bodyPw : SD := (sSeq (sSet 4 (dOp gAdd (dV 4) (dV 3)))
    (sSeq (sSet 6 (dDc [] [5] (lL (dV 4)) (gN 5) (dV 5) (dC (.bl true))))
    (sSeq (sSet 7 (dLst aNil))
    (sSeq (sFor (lL (dV 3)) (gN 5) bodyPe)
    (sSet 3 (dCb gListD (aCons (dDc [] [5] (lL (dV 7)) (gN 5) (dV 5) (dC (.bl true))) aNil)))))))
theorem pe_loop (X : D) (level found ks : List Pr) (ws : List D) (hks : ∀ k, k ∈ ks ↔ k ∈ found) (hl : level.length ≤ 43904) (ok : ∀ k ∈ level, POk A B k) (x5 x8 : Option D) :
    (∃ (beh : List Pr) (y5 y8 : Option D), sForL (gN 5) bodyPe (level.map eP) [some (eRc A), some (eRc B), some X, some (.lst (level.map eP)), some (.lst (found.map eP)), x5, some (.dic (ks.map eP) ws), some (.lst []), x8, none] =
        some (.nx [some (eRc A), some (eRc B), some X, some (.lst (level.map eP)), some (.lst (found.map eP)), y5, some (.dic (ks.map eP) ws), some (.lst (beh.map eP)), y8, none]) ∧ beh.length ≤ 27 * 43904 ∧ (∀ k ∈ level, ¬ badP A B k) ∧ ∀ k', k' ∈ beh ↔ k' ∉ found ∧ ∃ k ∈ level, sucP A B k k') ∨
    (∃ ρ', sForL (gN 5) bodyPe (level.map eP) [some (eRc A), some (eRc B), some X, some (.lst (level.map eP)), some (.lst (found.map eP)), x5, some (.dic (ks.map eP) ws), some (.lst []), x8, none] = some (.rt .non ρ') ∧ ∃ k ∈ level, badP A B k) := by
  have f := sFor_rule eP (g := gN 5) (b := bodyPe)
    (fun r ρ => ∃ (pre beh : List Pr) (y5 y8 : Option D), level = pre ++ r ∧ ρ = [some (eRc A), some (eRc B), some X, some (.lst (level.map eP)), some (.lst (found.map eP)), y5, some (.dic (ks.map eP) ws), some (.lst (beh.map eP)), y8, none] ∧
      beh.length ≤ 27 * pre.length ∧ (∀ k ∈ pre, ¬ badP A B k) ∧ ∀ k', k' ∈ beh ↔ k' ∉ found ∧ ∃ k ∈ pre, sucP A B k k')
    (fun d => d = .non ∧ ∃ k ∈ level, badP A B k) ?_ level _ ⟨[], [], x5, x8, rfl, rfl, by simp, by simp, by simp⟩
  · rcases f with ⟨ρ', e, pre, beh, y5, y8, hp, rfl, h1, h2, h3⟩ | ⟨d, ρ', e, rfl, hb⟩
    · rw [List.append_nil] at hp
      subst hp
      exact .inl ⟨beh, y5, y8, e, by omega, h2, h3⟩
    · exact .inr ⟨ρ', e, hb⟩
  · rintro k r ρ ⟨pre, beh, y5, y8, hp, rfl, h1, h2, h3⟩
    have hk : k ∈ level := by rw [hp]; simp
    have hpl : pre.length + 1 ≤ level.length := by rw [hp]; simp
    refine ⟨[some (eRc A), some (eRc B), some X, some (.lst (level.map eP)), some (.lst (found.map eP)), some (eP k), some (.dic (ks.map eP) ws), some (.lst (beh.map eP)), y8, none], by simp, ?_⟩
    rcases p_pairs_behind A B (ok k hk) with ⟨hb, e⟩ | ⟨hb, l, e, hl27, hs⟩
    · refine .inr ⟨.non, [some (eRc A), some (eRc B), some X, some (.lst (level.map eP)), some (.lst (found.map eP)), some (eP k), some (.dic (ks.map eP) ws), some (.lst (beh.map eP)), some .non, none], ?_, rfl, k, hk, hb⟩
      simp [bodyPe, e]
    · have c : lcL [9] (gN 9) (dT (dOp (gInD true) (dV 9) (dV 6))) (dV 9) (l.map eP) [some (eRc A), some (eRc B), some X, some (.lst (level.map eP)), some (.lst (found.map eP)), some (eP k), some (.dic (ks.map eP) ws), some (.lst (beh.map eP)), some (.lst (l.map eP)), none] =
          some ((l.filter fun x => !decide (x ∈ ks)).map eP, [some (eRc A), some (eRc B), some X, some (.lst (level.map eP)), some (.lst (found.map eP)), some (eP k), some (.dic (ks.map eP) ws), some (.lst (beh.map eP)), some (.lst (l.map eP)), none]) := by
        refine lc_fix eP (fun x => !decide (x ∈ ks)) eP l fun x hx => ⟨[some (eRc A), some (eRc B), some X, some (.lst (level.map eP)), some (.lst (found.map eP)), some (eP k), some (.dic (ks.map eP) ws), some (.lst (beh.map eP)), some (.lst (l.map eP)), some (eP x)], by simp, ?_, fun _ => by simp, rfl⟩
        simp [gInD_map ke_P]
      have hfl : (l.filter fun x => !decide (x ∈ ks)).length ≤ 27 := Nat.le_trans (List.length_filter_le _ _) hl27
      have szl : (l.length < sizeLine) = True := eq_true (sz' _ (by omega))
      have sze : (beh.length + (l.filter fun x => !decide (x ∈ ks)).length ≤ sizeLine) = True := eq_true (sz _ (by omega))
      refine .inl ⟨[some (eRc A), some (eRc B), some X, some (.lst (level.map eP)), some (.lst (found.map eP)), some (eP k), some (.dic (ks.map eP) ws), some (.lst ((beh ++ l.filter fun x => !decide (x ∈ ks)).map eP)), some (.lst (l.map eP)), none], ?_, pre ++ [k], _, _, _, by simp [hp], rfl, ?_, ?_, ?_⟩
      · have sze' : (beh.length + ((l.filter fun x => !decide (x ∈ ks)).map eP).length ≤ sizeLine) = True := by rw [List.length_map]; exact sze
        simp [bodyPe, e, wipeD, szl]
        rw [c]
        simp [mixD, sze']
        simp at sze
        simp [sze]
      · rw [List.length_append, List.length_append]
        simp only [List.length_cons, List.length_nil]
        omega
      · intro x hx
        rcases List.mem_append.mp hx with z | z
        · exact h2 x z
        · simp at z
          subst z
          exact hb
      · intro k'
        rw [List.mem_append, h3 k', List.mem_filter]
        constructor
        · rintro (⟨q1, y, hy, q2⟩ | ⟨q1, q2⟩)
          · exact ⟨q1, y, List.mem_append_left _ hy, q2⟩
          · refine ⟨?_, k, by simp, (hs k').mp q1⟩
            simp at q2
            exact fun z => q2 ((hks k').mpr z)
        · rintro ⟨q1, y, hy, q2⟩
          rcases List.mem_append.mp hy with z | z
          · exact .inl ⟨q1, y, z, q2⟩
          · simp at z
            subst z
            refine .inr ⟨(hs k').mpr q2, ?_⟩
            simp
            exact fun z => q1 ((hks k').mp z)
theorem Dk.iffP {l : List Pr} {us : List Pr} (h : Dk id l (us.map id) us) (k : Pr) : k ∈ us ↔ k ∈ l := by
  constructor
  · exact h.sub k
  · intro hk
    have := h.all k hk
    simpa using this
theorem pe_body (GA : Good A) (GB : Good B) (X : D) {b0 : Pr} {found level : List Pr} {d : Nat} (Bf : Bfs (sucP A B) (badP A B) b0 found level d) (ok : ∀ k ∈ found ++ level, POk A B k) (x5 x6 x7 x8 : Option D) :
    (∃ (level' : List Pr) (y5 y6 y7 y8 : Option D), bodyPw [some (eRc A), some (eRc B), some X, some (.lst (level.map eP)), some (.lst (found.map eP)), x5, x6, x7, x8, none] =
        some (.nx [some (eRc A), some (eRc B), some X, some (.lst (level'.map eP)), some (.lst ((found ++ level).map eP)), y5, y6, y7, y8, none]) ∧ Bfs (sucP A B) (badP A B) b0 (found ++ level) level' (d + 1) ∧ ∀ k ∈ level', POk A B k) ∨
    (∃ ρ', bodyPw [some (eRc A), some (eRc B), some X, some (.lst (level.map eP)), some (.lst (found.map eP)), x5, x6, x7, x8, none] = some (.rt .non ρ') ∧ ∃ k ∈ level, badP A B k) := by
  have nl := pairs_len GA GB Bf.nd ok
  have nl' := nl
  rw [List.length_append] at nl'
  have szf : (found.length + level.length ≤ sizeLine) = True := eq_true (sz _ (by omega))
  have szf' : (found.length + level.length < sizeLine) = True := eq_true (sz' _ (by omega))
  obtain ⟨us, c1, hk1⟩ := dc_new ke_P eP id (fun _ => D.bl true) (vs := [5]) (g := gN 5) (fk := dV 5) (fv := dC (.bl true))
    (ρ0 := [some (eRc A), some (eRc B), some X, some (.lst (level.map eP)), some (.lst ((found ++ level).map eP)), none, x6, x7, x8, none]) (found ++ level)
    fun x hx => ⟨[some (eRc A), some (eRc B), some X, some (.lst (level.map eP)), some (.lst ((found ++ level).map eP)), some (eP x), x6, x7, x8, none], by simp, by simp, by simp, rfl⟩
  rw [List.map_id] at c1
  have lo := pe_loop (A := A) (B := B) X level (found ++ level) us (us.map fun _ => D.bl true) hk1.iffP (by omega) (fun k hk => ok k (List.mem_append_right _ hk)) x5 x8
  rcases lo with ⟨beh, y5, y8, e, hb27, hnb, hbe⟩ | ⟨ρ', e, hb⟩
  · have szb : (beh.length < sizeLine) = True := eq_true (sz' _ (by omega))
    obtain ⟨vs, c2, hk2⟩ := dc_new ke_P eP id (fun _ => D.bl true) (vs := [5]) (g := gN 5) (fk := dV 5) (fv := dC (.bl true))
      (ρ0 := [some (eRc A), some (eRc B), some X, some (.lst (level.map eP)), some (.lst ((found ++ level).map eP)), none, some (.dic (us.map eP) (us.map fun _ => D.bl true)), some (.lst (beh.map eP)), y8, none]) beh
      fun x hx => ⟨[some (eRc A), some (eRc B), some X, some (.lst (level.map eP)), some (.lst ((found ++ level).map eP)), some (eP x), some (.dic (us.map eP) (us.map fun _ => D.bl true)), some (.lst (beh.map eP)), y8, none], by simp, by simp, by simp, rfl⟩
    rw [List.map_id] at c2
    refine .inl ⟨vs, y5, some (.dic (us.map eP) (us.map fun _ => D.bl true)), some (.lst (beh.map eP)), y8, ?_, Bf.next ?_ ?_ ?_, ?_⟩
    rotate_right
    · intro k hk
      obtain ⟨q1, k0, hk0, s⟩ := (hbe k).mp ((hk2.iffP k).mp hk)
      exact sucP_ok GA GB (ok k0 (List.mem_append_right _ hk0)) s
    · simp [bodyPw, szf, szf', wipeD]
      simp at c1
      rw [c1]
      simp
      simp at e
      rw [e]
      simp [wipeD, szb]
      simp at c2
      rw [c2]
      simp
    · have := hk2.nd
      simpa using this
    · intro k' hk'
      obtain ⟨q1, k0, hk0, s⟩ := (hbe k').mp ((hk2.iffP k').mp hk')
      exact ⟨q1, k0, hk0, s⟩
    · intro k hk
      refine ⟨hnb k hk, fun k' s => ?_⟩
      by_cases z : k' ∈ found ++ level
      · exact .inl z
      · exact .inr ((hk2.iffP k').mpr ((hbe k').mpr ⟨z, k, hk, s⟩))
  · refine .inr ⟨ρ', ?_, hb⟩
    simp [bodyPw, szf, szf', wipeD]
    simp at c1
    rw [c1]
    simp
    simp at e
    rw [e]
structure Met (A B : Rcv) (b0 : Pr) (found : List Pr) : Prop where
  nd : found.Nodup
  ok : ∀ p ∈ found, POk A B p
  ini : b0 ∈ found
  cl : ∀ p ∈ found, ¬ badP A B p ∧ ∀ p', sucP A B p p' → p' ∈ found
theorem p_pairs_met (GA : Good A) (GB : Good B) {b0 : Pr} (h0 : POk A B b0) : (F_pairs_met [eRc A, eRc B, eP b0] = some .non ∧ ∃ n p, Rch (sucP A B) b0 n p ∧ badP A B p) ∨
    (∃ found : List Pr, F_pairs_met [eRc A, eRc B, eP b0] = some (.lst (found.map eP)) ∧ Met A B b0 found) := by
  have w := sWh_rule (c := dT (dNN (dV 3))) (b := bodyPw)
    (fun m ρ => ∃ (found level : List Pr) (d : Nat) (x5 x6 x7 x8 : Option D), ρ = [some (eRc A), some (eRc B), some (eP b0), some (.lst (level.map eP)), some (.lst (found.map eP)), x5, x6, x7, x8, none] ∧
      Bfs (sucP A B) (badP A B) b0 found level d ∧ (∀ k ∈ found ++ level, POk A B k) ∧ m + found.length = 3137)
    (fun ρ => ∃ (found : List Pr) (x3 x5 x6 x7 x8 : Option D), ρ = [some (eRc A), some (eRc B), some (eP b0), x3, some (.lst (found.map eP)), x5, x6, x7, x8, none] ∧ Met A B b0 found)
    (fun r => r = .non ∧ ∃ n k, Rch (sucP A B) b0 n k ∧ badP A B k) ?_ FU 3137
    [some (eRc A), some (eRc B), some (eP b0), some (.lst ([b0].map eP)), some (.lst []), none, none, none, none, none] ?_ (by decide)
  · have e0 : D.lst ([b0].map eP) = .lst [eP b0] := rfl
    rw [e0] at w
    rcases w with ⟨ρ', e, found, x3, x5, x6, x7, x8, rfl, h⟩ | ⟨d, ρ', e, rfl, n, k, h1, h2⟩
    · refine .inr ⟨found, ?_, h⟩
      simp [F_pairs_met, S_pairs_met, startD]
      rw [← bodyPe, ← bodyPw, e]
      simp
    · refine .inl ⟨?_, n, k, h1, h2⟩
      simp [F_pairs_met, S_pairs_met, startD]
      rw [← bodyPe, ← bodyPw, e]
  · rintro m ρ ⟨found, level, d, x5, x6, x7, x8, rfl, Bf, ok, hm⟩
    cases hlv : level with
    | nil =>
      subst hlv
      refine .inl ⟨by simp, found, _, x5, x6, x7, x8, rfl, ⟨?_, fun p hp => ok p (by simp [hp]), ?_, fun p hp => ⟨(Bf.cl p hp).1, fun p' s => ?_⟩⟩⟩
      · have := Bf.nd
        rw [List.append_nil] at this
        exact this
      · rcases Bf.ini with z | z
        · exact z
        · cases z
      · rcases (Bf.cl p hp).2 p' s with z | z
        · exact z
        · cases z
    | cons k0 l0 =>
      rw [← hlv]
      have hne : 0 < level.length := by rw [hlv]; simp
      have nl := pairs_len GA GB Bf.nd ok
      rw [List.length_append] at nl
      refine .inr ⟨by rw [hlv]; simp, ?_⟩
      rcases pe_body GA GB (eP b0) Bf ok x5 x6 x7 x8 with ⟨level', y5, y6, y7, y8, e, Bf', ok'⟩ | ⟨ρ', e, k, hk, hb⟩
      · refine .inl ⟨m - level.length, _, by omega, e, found ++ level, level', d + 1, y5, y6, y7, y8, rfl, Bf', fun k hk => ?_, by rw [List.length_append]; omega⟩
        rcases List.mem_append.mp hk with z | z
        · exact ok k z
        · exact ok' k z
      · exact .inr ⟨_, ρ', e, rfl, d, k, Bf.lev k hk, hb⟩
  · refine ⟨[], [b0], 0, none, none, none, none, rfl, Bfs.start, ?_, rfl⟩
    intro k hk
    simp at hk
    subst hk
    exact h0
end
end DL
end
section
set_option Elab.async false
set_option linter.all false
set_option maxRecDepth 100000
set_option autoImplicit false
/-! The plain law: nodes_from, all_nodes. -/
namespace DL
open PySem PySem.Spec
open PyProof.Rows hiding St
open L2
inductive Nd where
  | root
  | mk (k : Ky) (b : Nd) (s : Int) (t : Bool)
def eNd : Nd → D
  | .root => .node (eK (0, 0, 0)) .non (.int 0) (.bl false)
  | .mk k b s t => .node (eK k) (eNd b) (.int s) (.bl t)
def Nd.key : Nd → Ky
  | .root => (0, 0, 0)
  | .mk k _ _ _ => k
theorem nd_key (x : Nd) : nodeF 0 (eNd x) = some (eK x.key) := by cases x <;> rfl
theorem nd_non (x : Nd) : isNon (eNd x) = false := by cases x <;> rfl
section
variable {fA fB : List (List BN)} {rising : Bool} {A B : D}
def bodyNf : SD := (sSeq (sTg (dCal 3 F_run_at (aCons (dOp gIx (dV 1) (dC (.int 0))) (aCons (dV 3) (aCons (dV 7) aNil)))) (gT 2 (glC (gN 8) (glC (gN 9) glN))))
    (sSeq (sTg (dCal 3 F_run_at (aCons (dOp gIx (dV 1) (dC (.int 1))) (aCons (dV 4) (aCons (dV 7) aNil)))) (gT 2 (glC (gN 10) (glC (gN 11) glN))))
    (sSeq (sSet 12 (dIf (dT (dV 2)) (dCal 3 F_ahead_behind (aCons (dV 5) (aCons (dV 7) (aCons (dV 8) aNil)))) (dC (.int 0))))
    (sSeq (sSet 13 (dNode (aCons (dTup (aCons (dV 9) (aCons (dV 11) (aCons (dV 12) aNil)))) (aCons (dV 0) (aCons (dV 7) (aCons (dV 8) aNil))))))
    (sSeq (sIf (dT (dOp gNe (dV 8) (dV 10))) (sRet (dTup (aCons (dV 6) (aCons (dV 13) aNil)))) sNil)
    (sApp 6 (dV 13)))))))
def mkN (fA fB : List (List BN)) (rising : Bool) (x : Nd) (s : Int) : Nd := .mk (nxK fA fB rising x.key s) x s (yA fA x.key s)
theorem p_nodes_from (WA : WF fA) (WB : WF fB) {x : Nd} (h : KOk fA fB x.key) : (∃ (l : List Nd) (s : Int), s ∈ stepsR rising x.key.2.2 ∧ yA fA x.key s ≠ yB fB x.key s ∧ F_nodes_from [eNd x, .tup [eForm fA, eForm fB], .bl rising] = some (.tup [.lst (l.map eNd), eNd (mkN fA fB rising x s)])) ∨
    (¬ unK fA fB rising x.key ∧ ∃ l : List Nd, F_nodes_from [eNd x, .tup [eForm fA, eForm fB], .bl rising] = some (.tup [.lst (l.map eNd), .non]) ∧ l.length ≤ 27 ∧ ∀ y, y ∈ l ↔ ∃ s ∈ stepsR rising x.key.2.2, yA fA x.key s = yB fB x.key s ∧ y = mkN fA fB rising x s) := by
  have f := sFor_rule D.int (g := gN 7) (b := bodyNf)
    (fun r ρ => ∃ (pre : List Int) (l : List Nd) (x7 x8 x9 x10 x11 x12 x13 : Option D), stepsR rising x.key.2.2 = pre ++ r ∧ ρ = [some (eNd x), some (.tup [eForm fA, eForm fB]), some (.bl rising), some (.int (x.key.1 : Nat)), some (.int (x.key.2.1 : Nat)), some (.int (x.key.2.2 : Nat)), some (.lst (l.map eNd)), x7, x8, x9, x10, x11, x12, x13] ∧
      l.length ≤ pre.length ∧ (∀ s ∈ pre, yA fA x.key s = yB fB x.key s) ∧ ∀ y, y ∈ l ↔ ∃ s ∈ pre, yA fA x.key s = yB fB x.key s ∧ y = mkN fA fB rising x s)
    (fun d => ∃ (l : List Nd) (s : Int), s ∈ stepsR rising x.key.2.2 ∧ yA fA x.key s ≠ yB fB x.key s ∧ d = .tup [.lst (l.map eNd), eNd (mkN fA fB rising x s)]) ?_ (stepsR rising x.key.2.2)
    [some (eNd x), some (.tup [eForm fA, eForm fB]), some (.bl rising), some (.int (x.key.1 : Nat)), some (.int (x.key.2.1 : Nat)), some (.int (x.key.2.2 : Nat)), some (.lst []), none, none, none, none, none, none, none] ⟨[], [], none, none, none, none, none, none, none, rfl, rfl, by simp, by simp, by simp⟩
  · have ns := p_next_steps rising x.key.2.2
    have st : F_nodes_from [eNd x, .tup [eForm fA, eForm fB], .bl rising] = match (match sForL (gN 7) bodyNf ((stepsR rising x.key.2.2).map D.int) [some (eNd x), some (.tup [eForm fA, eForm fB]), some (.bl rising), some (.int (x.key.1 : Nat)), some (.int (x.key.2.1 : Nat)), some (.int (x.key.2.2 : Nat)), some (.lst []), none, none, none, none, none, none, none] with
        | some (.nx ρ) => sRet (dTup (aCons (dV 6) (aCons (dC .non) aNil))) ρ
        | r => r) with
        | some (.rt d _) => some d
        | some (.nx _) => some .non
        | none => none := by
      simp [F_nodes_from, S_nodes_from, startD, nd_key, ns, eK]
      rfl
    rw [st]
    rcases f with ⟨ρ', e, pre, l, x7, x8, x9, x10, x11, x12, x13, hp, rfl, h1, h2, h3⟩ | ⟨d, ρ', e, l, s, hs, hb, rfl⟩
    · rw [List.append_nil] at hp
      refine .inr ⟨?_, l, ?_, ?_, ?_⟩
      · rintro ⟨s, hs, q⟩
        rw [hp] at hs
        exact q (h2 s hs)
      · rw [e]
        simp
      · have := steps_len rising x.key.2.2
        rw [hp] at this
        omega
      · intro k'
        rw [h3 k', hp]
    · refine .inl ⟨l, s, hs, hb, ?_⟩
      rw [e]
  · rintro s r ρ ⟨pre, l, x7, x8, x9, x10, x11, x12, x13, hp, rfl, h1, h2, h3⟩
    have hs : s ∈ stepsR rising x.key.2.2 := by rw [hp]; simp
    have fa := p_fat WA h.1 (steps_ST hs)
    have fb := p_fat WB h.2.1 (steps_ST hs)
    have hlen : l.length ≤ 27 := by
      have := steps_len rising x.key.2.2
      rw [hp, List.length_append] at this
      omega
    have szl : (l.length < sizeLine) = True := eq_true (sz' _ (by omega))
    refine ⟨[some (eNd x), some (.tup [eForm fA, eForm fB]), some (.bl rising), some (.int (x.key.1 : Nat)), some (.int (x.key.2.1 : Nat)), some (.int (x.key.2.2 : Nat)), some (.lst (l.map eNd)), some (.int s), x8, x9, x10, x11, x12, x13], by simp, ?_⟩
    have e1 : eNd (mkN fA fB rising x s) = .node (.tup [.int ((fat fA x.key.1 s).2 : Nat), .int ((fat fB x.key.2.1 s).2 : Nat), .int (ahd rising x.key.2.2 s (fat fA x.key.1 s).1 : Nat)]) (eNd x) (.int s) (.bl (fat fA x.key.1 s).1) := rfl
    by_cases hab : yA fA x.key s = yB fB x.key s
    · refine .inl ⟨[some (eNd x), some (.tup [eForm fA, eForm fB]), some (.bl rising), some (.int (x.key.1 : Nat)), some (.int (x.key.2.1 : Nat)), some (.int (x.key.2.2 : Nat)), some (.lst ((l ++ [mkN fA fB rising x s]).map eNd)), some (.int s), some (.bl (fat fA x.key.1 s).1), some (.int ((fat fA x.key.1 s).2 : Nat)), some (.bl (fat fB x.key.2.1 s).1), some (.int ((fat fB x.key.2.1 s).2 : Nat)), some (.int (ahd rising x.key.2.2 s (fat fA x.key.1 s).1 : Nat)), some (eNd (mkN fA fB rising x s))], ?_, pre ++ [s], _, _, _, _, _, _, _, _, by simp [hp], rfl, by simp [h1], ?_, ?_⟩
      · unfold yA yB at hab
        have hnd : (!decide ((fat fA x.key.1 s).1 = (fat fB x.key.2.1 s).1)) = false := by simp [hab]
        cases rising with
        | true =>
          have pa := p_ahead (a := x.key.2.2) (ahead_of hs) (fat fA x.key.1 s).1
          simp [bodyNf, fa, fb, eBN, pa, szl, e1, hab]
          rw [← hab]
          simp [pa, szl, hnd]
        | false =>
          simp [bodyNf, fa, fb, eBN, szl, e1, hnd, ahd, hab]
      · intro t ht
        rcases List.mem_append.mp ht with z | z
        · exact h2 t z
        · simp at z
          subst z
          exact hab
      · intro k'
        rw [List.mem_append, h3 k']
        constructor
        · rintro (⟨t, ht, q⟩ | z)
          · exact ⟨t, List.mem_append_left _ ht, q⟩
          · simp at z
            exact ⟨s, by simp, hab, z⟩
        · rintro ⟨t, ht, q⟩
          rcases List.mem_append.mp ht with z | z
          · exact .inl ⟨t, z, q⟩
          · simp at z
            subst z
            exact .inr (by rw [q.2]; simp)
    · refine .inr ⟨.tup [.lst (l.map eNd), eNd (mkN fA fB rising x s)], [some (eNd x), some (.tup [eForm fA, eForm fB]), some (.bl rising), some (.int (x.key.1 : Nat)), some (.int (x.key.2.1 : Nat)), some (.int (x.key.2.2 : Nat)), some (.lst (l.map eNd)), some (.int s), some (.bl (fat fA x.key.1 s).1), some (.int ((fat fA x.key.1 s).2 : Nat)), some (.bl (fat fB x.key.2.1 s).1), some (.int ((fat fB x.key.2.1 s).2 : Nat)), some (.int (ahd rising x.key.2.2 s (fat fA x.key.1 s).1 : Nat)), some (eNd (mkN fA fB rising x s))], ?_, l, s, hs, hab, rfl⟩
      unfold yA yB at hab
      cases rising with
      | true =>
        have pa := p_ahead (a := x.key.2.2) (ahead_of hs) (fat fA x.key.1 s).1
        simp [bodyNf, fa, fb, eBN, pa, e1, hab]
      | false =>
        simp [bodyNf, fa, fb, eBN, e1, ahd, hab]
end
end DL
end
section
set_option Elab.async false
set_option linter.all false
set_option maxRecDepth 100000
set_option autoImplicit false
/-! The plain law: all_nodes. -/
namespace DL
open PySem PySem.Spec
open PyProof.Rows hiding St
open L2
section
variable {fA fB : List (List BN)} {rising : Bool} {A B : D}
inductive VN (fA fB : List (List BN)) (rising : Bool) : Nat → Nd → Prop
  | root : VN fA fB rising 0 .root
  | mk {n : Nat} {b : Nd} {s : Int} (h : VN fA fB rising n b) (hs : s ∈ stepsR rising b.key.2.2) (hab : yA fA b.key s = yB fB b.key s) : VN fA fB rising (n + 1) (mkN fA fB rising b s)
theorem VN.rch {n : Nat} {x : Nd} (h : VN fA fB rising n x) : Rch (sucK fA fB rising) (0, 0, 0) n x.key := by
  induction h with
  | root => exact .zero
  | mk h hs hab ih => exact .succ ih ⟨_, hs, hab, rfl⟩
theorem rch_ok (WA : WF fA) (WB : WF fB) {n : Nat} {k : Ky} (h : Rch (sucK fA fB rising) (0, 0, 0) n k) : KOk fA fB k := by
  induction h with
  | zero => exact ⟨WA.pos, WB.pos, Nat.zero_le _⟩
  | succ h s ih =>
    obtain ⟨t, ht, _, rfl⟩ := s
    exact nxK_ok WA WB ih ht
def bodyAe : SD := (sSeq (sTg (dCal 3 F_nodes_from (aCons (dV 5) (aCons (dV 0) (aCons (dV 2) aNil)))) (gT 2 (glC (gN 8) (glC (gN 9) glN))))
    (sSeq (sIf (dT (dOp gIsNot (dV 9) (dC .non))) (sRet (dTup (aCons (dV 4) (aCons (dV 9) aNil)))) sNil)
    (sExt 7 (dLc [7] [10] (lL (dV 8)) (gN 10) (dT (dOp (gInD true) (dFld 0 (dV 10)) (dV 6))) (dV 10)))))
def bodyAw : SD := (sSeq (sSet 4 (dOp gAdd (dV 4) (dV 3)))
    (sSeq (sSet 6 (dDc [] [5] (lL (dV 4)) (gN 5) (dFld 0 (dV 5)) (dC (.bl true))))
    (sSeq (sSet 7 (dLst aNil))
    (sSeq (sFor (lL (dV 3)) (gN 5) bodyAe)
    (sSet 3 (dListV (dDc [] [5] (lL (dRev (dV 7))) (gN 5) (dFld 0 (dV 5)) (dV 5))))))))
/-- what is found, if the search ends early -/
def Part (fA fB : List (List BN)) (rising : Bool) (d : Nat) (r : D) : Prop := ∃ (F : List Nd) (x : Nd) (s : Int), VN fA fB rising d x ∧ s ∈ stepsR rising x.key.2.2 ∧ yA fA x.key s ≠ yB fB x.key s ∧ r = .tup [.lst (F.map eNd), eNd (mkN fA fB rising x s)]
theorem ae_loop (WA : WF fA) (WB : WF fB) (X : D) (d : Nat) (level found : List Nd) (ks : List Ky) (ws : List D) (hks : ∀ k, k ∈ ks ↔ k ∈ found.map Nd.key) (hl : level.length ≤ 43904) (vn : ∀ x ∈ level, VN fA fB rising d x) (x5 x8 x9 : Option D) :
    (∃ (beh : List Nd) (y5 y8 y9 : Option D), sForL (gN 5) bodyAe (level.map eNd) [some (.tup [eForm fA, eForm fB]), some X, some (.bl rising), some (.lst (level.map eNd)), some (.lst (found.map eNd)), x5, some (.dic (ks.map eK) ws), some (.lst []), x8, x9, none] =
        some (.nx [some (.tup [eForm fA, eForm fB]), some X, some (.bl rising), some (.lst (level.map eNd)), some (.lst (found.map eNd)), y5, some (.dic (ks.map eK) ws), some (.lst (beh.map eNd)), y8, y9, none]) ∧ beh.length ≤ 27 * 43904 ∧ (∀ x ∈ level, ¬ unK fA fB rising x.key) ∧
          ∀ y, y ∈ beh ↔ y.key ∉ found.map Nd.key ∧ ∃ x ∈ level, ∃ s ∈ stepsR rising x.key.2.2, yA fA x.key s = yB fB x.key s ∧ y = mkN fA fB rising x s) ∨
    (∃ r ρ', sForL (gN 5) bodyAe (level.map eNd) [some (.tup [eForm fA, eForm fB]), some X, some (.bl rising), some (.lst (level.map eNd)), some (.lst (found.map eNd)), x5, some (.dic (ks.map eK) ws), some (.lst []), x8, x9, none] = some (.rt r ρ') ∧ Part fA fB rising d r) := by
  have f := sFor_rule eNd (g := gN 5) (b := bodyAe)
    (fun r ρ => ∃ (pre beh : List Nd) (y5 y8 y9 : Option D), level = pre ++ r ∧ ρ = [some (.tup [eForm fA, eForm fB]), some X, some (.bl rising), some (.lst (level.map eNd)), some (.lst (found.map eNd)), y5, some (.dic (ks.map eK) ws), some (.lst (beh.map eNd)), y8, y9, none] ∧
      beh.length ≤ 27 * pre.length ∧ (∀ x ∈ pre, ¬ unK fA fB rising x.key) ∧ ∀ y, y ∈ beh ↔ y.key ∉ found.map Nd.key ∧ ∃ x ∈ pre, ∃ s ∈ stepsR rising x.key.2.2, yA fA x.key s = yB fB x.key s ∧ y = mkN fA fB rising x s)
    (fun r => Part fA fB rising d r) ?_ level _ ⟨[], [], x5, x8, x9, rfl, rfl, by simp, by simp, by simp⟩
  · rcases f with ⟨ρ', e, pre, beh, y5, y8, y9, hp, rfl, h1, h2, h3⟩ | ⟨r, ρ', e, hb⟩
    · rw [List.append_nil] at hp
      subst hp
      exact .inl ⟨beh, y5, y8, y9, e, by omega, h2, h3⟩
    · exact .inr ⟨r, ρ', e, hb⟩
  · rintro x r ρ ⟨pre, beh, y5, y8, y9, hp, rfl, h1, h2, h3⟩
    have hk : x ∈ level := by rw [hp]; simp
    have hpl : pre.length + 1 ≤ level.length := by rw [hp]; simp
    refine ⟨[some (.tup [eForm fA, eForm fB]), some X, some (.bl rising), some (.lst (level.map eNd)), some (.lst (found.map eNd)), some (eNd x), some (.dic (ks.map eK) ws), some (.lst (beh.map eNd)), y8, y9, none], by simp, ?_⟩
    rcases p_nodes_from (rising := rising) WA WB (rch_ok WA WB (vn x hk).rch) with ⟨l, s, hs, hab, e⟩ | ⟨hb, l, e, hl27, hs⟩
    · refine .inr ⟨.tup [.lst (found.map eNd), eNd (mkN fA fB rising x s)], [some (.tup [eForm fA, eForm fB]), some X, some (.bl rising), some (.lst (level.map eNd)), some (.lst (found.map eNd)), some (eNd x), some (.dic (ks.map eK) ws), some (.lst (beh.map eNd)), some (.lst (l.map eNd)), some (eNd (mkN fA fB rising x s)), none], ?_, found, x, s, vn x hk, hs, hab, rfl⟩
      simp [bodyAe, e, nd_non]
    · have c : lcL [10] (gN 10) (dT (dOp (gInD true) (dFld 0 (dV 10)) (dV 6))) (dV 10) (l.map eNd) [some (.tup [eForm fA, eForm fB]), some X, some (.bl rising), some (.lst (level.map eNd)), some (.lst (found.map eNd)), some (eNd x), some (.dic (ks.map eK) ws), some (.lst (beh.map eNd)), some (.lst (l.map eNd)), some .non, none] =
          some ((l.filter fun y => !decide (y.key ∈ ks)).map eNd, [some (.tup [eForm fA, eForm fB]), some X, some (.bl rising), some (.lst (level.map eNd)), some (.lst (found.map eNd)), some (eNd x), some (.dic (ks.map eK) ws), some (.lst (beh.map eNd)), some (.lst (l.map eNd)), some .non, none]) := by
        refine lc_fix eNd (fun y => !decide (y.key ∈ ks)) eNd l fun y hy => ⟨[some (.tup [eForm fA, eForm fB]), some X, some (.bl rising), some (.lst (level.map eNd)), some (.lst (found.map eNd)), some (eNd x), some (.dic (ks.map eK) ws), some (.lst (beh.map eNd)), some (.lst (l.map eNd)), some .non, some (eNd y)], by simp, ?_, fun _ => by simp, rfl⟩
        simp [nd_key, gInD_map ke_K]
      have hfl : (l.filter fun y => !decide (y.key ∈ ks)).length ≤ 27 := Nat.le_trans (List.length_filter_le _ _) hl27
      have szl : (l.length < sizeLine) = True := eq_true (sz' _ (by omega))
      have sze : (beh.length + (l.filter fun y => !decide (y.key ∈ ks)).length ≤ sizeLine) = True := eq_true (sz _ (by omega))
      refine .inl ⟨[some (.tup [eForm fA, eForm fB]), some X, some (.bl rising), some (.lst (level.map eNd)), some (.lst (found.map eNd)), some (eNd x), some (.dic (ks.map eK) ws), some (.lst ((beh ++ l.filter fun y => !decide (y.key ∈ ks)).map eNd)), some (.lst (l.map eNd)), some .non, none], ?_, pre ++ [x], _, _, _, _, by simp [hp], rfl, ?_, ?_, ?_⟩
      · have sze' : (beh.length + ((l.filter fun y => !decide (y.key ∈ ks)).map eNd).length ≤ sizeLine) = True := by rw [List.length_map]; exact sze
        simp [bodyAe, e, wipeD, szl]
        rw [c]
        simp [mixD, sze']
        simp at sze
        simp [sze]
      · rw [List.length_append, List.length_append]
        simp only [List.length_cons, List.length_nil]
        omega
      · intro y hy
        rcases List.mem_append.mp hy with z | z
        · exact h2 y z
        · simp at z
          subst z
          exact hb
      · intro y
        rw [List.mem_append, h3 y, List.mem_filter]
        constructor
        · rintro (⟨q1, z, hz, q2⟩ | ⟨q1, q2⟩)
          · exact ⟨q1, z, List.mem_append_left _ hz, q2⟩
          · refine ⟨?_, x, by simp, (hs y).mp q1⟩
            simp only [Bool.not_eq_true', decide_eq_false_iff_not] at q2
            exact fun z => q2 ((hks y.key).mpr z)
        · rintro ⟨q1, z, hz, q2⟩
          rcases List.mem_append.mp hz with w | w
          · exact .inl ⟨q1, z, w, q2⟩
          · simp at w
            subst w
            refine .inr ⟨(hs y).mpr q2, ?_⟩
            simp only [Bool.not_eq_true', decide_eq_false_iff_not]
            exact fun w => q1 ((hks y.key).mp w)
theorem Dk.mem_iff {α : Type} {key : α → Ky} {l us : List α} (h : Dk key l (us.map key) us) (k : Ky) : k ∈ us.map key ↔ k ∈ l.map key := by
  constructor
  · intro hk
    obtain ⟨u, hu, rfl⟩ := List.mem_map.mp hk
    exact List.mem_map.mpr ⟨u, h.sub u hu, rfl⟩
  · intro hk
    obtain ⟨x, hx, rfl⟩ := List.mem_map.mp hk
    exact h.all x hx
theorem ae_body (WA : WF fA) (WB : WF fB) (X : D) {found level : List Nd} {d : Nat} (Bf : Bfs (sucK fA fB rising) (unK fA fB rising) (0, 0, 0) (found.map Nd.key) (level.map Nd.key) d) (vn : ∀ x ∈ level, VN fA fB rising d x) (x5 x6 x7 x8 x9 : Option D) :
    (∃ (level' : List Nd) (y5 y6 y7 y8 y9 : Option D), bodyAw [some (.tup [eForm fA, eForm fB]), some X, some (.bl rising), some (.lst (level.map eNd)), some (.lst (found.map eNd)), x5, x6, x7, x8, x9, none] =
        some (.nx [some (.tup [eForm fA, eForm fB]), some X, some (.bl rising), some (.lst (level'.map eNd)), some (.lst ((found ++ level).map eNd)), y5, y6, y7, y8, y9, none]) ∧ Bfs (sucK fA fB rising) (unK fA fB rising) (0, 0, 0) ((found ++ level).map Nd.key) (level'.map Nd.key) (d + 1) ∧ ∀ x ∈ level', VN fA fB rising (d + 1) x) ∨
    (∃ r ρ', bodyAw [some (.tup [eForm fA, eForm fB]), some X, some (.bl rising), some (.lst (level.map eNd)), some (.lst (found.map eNd)), x5, x6, x7, x8, x9, none] = some (.rt r ρ') ∧ Part fA fB rising d r) := by
  have ok : ∀ k ∈ found.map Nd.key ++ level.map Nd.key, KOk fA fB k := fun k hk => by
    rcases List.mem_append.mp hk with z | z
    · obtain ⟨n, hn⟩ := Bf.fnd k z
      exact rch_ok WA WB hn
    · exact rch_ok WA WB (Bf.lev k z)
  have nl' := keys_len WA WB Bf.nd ok
  rw [List.length_append, List.length_map, List.length_map] at nl'
  have szf : (found.length + level.length ≤ sizeLine) = True := eq_true (sz _ (by omega))
  have szf' : (found.length + level.length < sizeLine) = True := eq_true (sz' _ (by omega))
  obtain ⟨us, c1, hk1⟩ := dc_new ke_K eNd Nd.key (fun _ => D.bl true) (vs := [5]) (g := gN 5) (fk := dFld 0 (dV 5)) (fv := dC (.bl true))
    (ρ0 := [some (.tup [eForm fA, eForm fB]), some X, some (.bl rising), some (.lst (level.map eNd)), some (.lst ((found ++ level).map eNd)), none, x6, x7, x8, x9, none]) (found ++ level)
    fun x hx => ⟨[some (.tup [eForm fA, eForm fB]), some X, some (.bl rising), some (.lst (level.map eNd)), some (.lst ((found ++ level).map eNd)), some (eNd x), x6, x7, x8, x9, none], by simp, by simp [nd_key], by simp, rfl⟩
  have lo := ae_loop (rising := rising) WA WB X d level (found ++ level) (us.map Nd.key) (us.map fun _ => D.bl true) hk1.mem_iff (by omega) vn x5 x8 x9
  rcases lo with ⟨beh, y5, y8, y9, e, hb27, hnb, hbe⟩ | ⟨r, ρ', e, hb⟩
  · have szb : (beh.length < sizeLine) = True := eq_true (sz' _ (by omega))
    obtain ⟨vs, c2, hk2⟩ := dc_new ke_K eNd Nd.key eNd (vs := [5]) (g := gN 5) (fk := dFld 0 (dV 5)) (fv := dV 5)
      (ρ0 := [some (.tup [eForm fA, eForm fB]), some X, some (.bl rising), some (.lst (level.map eNd)), some (.lst ((found ++ level).map eNd)), none, some (.dic ((us.map Nd.key).map eK) (us.map fun _ => D.bl true)), some (.lst (beh.map eNd)), y8, y9, none]) beh.reverse
      fun x hx => ⟨[some (.tup [eForm fA, eForm fB]), some X, some (.bl rising), some (.lst (level.map eNd)), some (.lst ((found ++ level).map eNd)), some (eNd x), some (.dic ((us.map Nd.key).map eK) (us.map fun _ => D.bl true)), some (.lst (beh.map eNd)), y8, y9, none], by simp, by simp [nd_key], by simp, rfl⟩
    have sub : ∀ y ∈ vs, y ∈ beh := fun y hy => by
      have := hk2.sub y hy
      rw [List.mem_reverse] at this
      exact this
    refine .inl ⟨vs, y5, some (.dic ((us.map Nd.key).map eK) (us.map fun _ => D.bl true)), some (.lst (beh.map eNd)), y8, y9, ?_, ?_, ?_⟩
    · simp [bodyAw, szf, szf', wipeD]
      simp at c1
      rw [c1]
      simp
      simp at e
      rw [e]
      simp [wipeD, szb]
      simp at c2
      rw [c2]
      simp
    · rw [List.map_append]
      refine Bf.next hk2.nd ?_ ?_
      · intro k' hk'
        obtain ⟨y, hy, rfl⟩ := List.mem_map.mp hk'
        obtain ⟨q1, x, hx, s, hs, hab, q⟩ := (hbe y).mp (sub y hy)
        rw [List.map_append] at q1
        exact ⟨q1, x.key, List.mem_map.mpr ⟨x, hx, rfl⟩, s, hs, hab, by rw [q]; rfl⟩
      · intro k hk
        obtain ⟨x, hx, rfl⟩ := List.mem_map.mp hk
        refine ⟨hnb x hx, fun k' s => ?_⟩
        by_cases z : k' ∈ found.map Nd.key ++ level.map Nd.key
        · exact .inl z
        · obtain ⟨t, ht, hab, rfl⟩ := s
          refine .inr (hk2.all (mkN fA fB rising x t) (List.mem_reverse.mpr ((hbe _).mpr ⟨?_, x, hx, t, ht, hab, rfl⟩)))
          rw [List.map_append]
          exact z
    · intro y hy
      obtain ⟨q1, x, hx, s, hs, hab, rfl⟩ := (hbe y).mp (sub y hy)
      exact .mk (vn x hx) hs hab
  · refine .inr ⟨r, ρ', ?_, hb⟩
    simp [bodyAw, szf, szf', wipeD]
    simp at c1
    rw [c1]
    simp
    simp at e
    rw [e]
theorem p_all_nodes (WA : WF fA) (WB : WF fB) : (∃ F : List Nd, F_all_nodes [.tup [eForm fA, eForm fB], .tup [.int 0, .int 0], .bl rising] = some (.tup [.lst (F.map eNd), .non]) ∧ ∀ n k, Rch (sucK fA fB rising) (0, 0, 0) n k → ¬ unK fA fB rising k) ∨
    (∃ (d : Nat) (F : List Nd) (x : Nd) (s : Int), VN fA fB rising d x ∧ s ∈ stepsR rising x.key.2.2 ∧ yA fA x.key s ≠ yB fB x.key s ∧ d ≤ 43904 ∧ F_all_nodes [.tup [eForm fA, eForm fB], .tup [.int 0, .int 0], .bl rising] = some (.tup [.lst (F.map eNd), eNd (mkN fA fB rising x s)]) ∧
      ∀ n k, Rch (sucK fA fB rising) (0, 0, 0) n k → unK fA fB rising k → d ≤ n) := by
  have w := sWh_rule (c := dT (dNN (dV 3))) (b := bodyAw)
    (fun m ρ => ∃ (found level : List Nd) (d : Nat) (x5 x6 x7 x8 x9 : Option D), ρ = [some (.tup [eForm fA, eForm fB]), some (.tup [.int 0, .int 0]), some (.bl rising), some (.lst (level.map eNd)), some (.lst (found.map eNd)), x5, x6, x7, x8, x9, none] ∧
      Bfs (sucK fA fB rising) (unK fA fB rising) (0, 0, 0) (found.map Nd.key) (level.map Nd.key) d ∧ (∀ x ∈ level, VN fA fB rising d x) ∧ m + found.length = 43905 ∧ d ≤ found.length)
    (fun ρ => ∃ (F : List Nd) (x3 x5 x6 x7 x8 x9 : Option D), ρ = [some (.tup [eForm fA, eForm fB]), some (.tup [.int 0, .int 0]), some (.bl rising), x3, some (.lst (F.map eNd)), x5, x6, x7, x8, x9, none] ∧ ∀ n k, Rch (sucK fA fB rising) (0, 0, 0) n k → ¬ unK fA fB rising k)
    (fun r => ∃ d, d ≤ 43904 ∧ Part fA fB rising d r ∧ ∀ n k, Rch (sucK fA fB rising) (0, 0, 0) n k → unK fA fB rising k → d ≤ n) ?_ FU 43905
    [some (.tup [eForm fA, eForm fB]), some (.tup [.int 0, .int 0]), some (.bl rising), some (.lst ([Nd.root].map eNd)), some (.lst []), none, none, none, none, none, none] ?_ (by decide)
  · have e0 : D.lst ([Nd.root].map eNd) = .lst [.node (.tup [.int 0, .int 0, .int 0]) .non (.int 0) (.bl false)] := rfl
    rw [e0] at w
    have s2 : (2 + 1 ≤ sizeLine) = True := eq_true (sz _ (by omega))
    rcases w with ⟨ρ', e, F, x3, x5, x6, x7, x8, x9, rfl, h⟩ | ⟨r, ρ', e, d, hd, ⟨F, x, s, h1, h2, h3, rfl⟩, h4⟩
    · refine .inl ⟨F, ?_, h⟩
      simp [F_all_nodes, S_all_nodes, startD, s2]
      rw [← bodyAe, ← bodyAw, e]
      simp
    · refine .inr ⟨d, F, x, s, h1, h2, h3, hd, ?_, h4⟩
      simp [F_all_nodes, S_all_nodes, startD, s2]
      rw [← bodyAe, ← bodyAw, e]
  · rintro m ρ ⟨found, level, d, x5, x6, x7, x8, x9, rfl, Bf, vn, hm, hd⟩
    cases hlv : level with
    | nil =>
      subst hlv
      exact .inl ⟨by simp, found, _, x5, x6, x7, x8, x9, rfl, fun n k h => (Bf.done n k h).2⟩
    | cons k0 l0 =>
      rw [← hlv]
      have hne : 0 < level.length := by rw [hlv]; simp
      have ok : ∀ k ∈ found.map Nd.key ++ level.map Nd.key, KOk fA fB k := fun k hk => by
        rcases List.mem_append.mp hk with z | z
        · obtain ⟨n, hn⟩ := Bf.fnd k z
          exact rch_ok WA WB hn
        · exact rch_ok WA WB (Bf.lev k z)
      have nl := keys_len WA WB Bf.nd ok
      rw [List.length_append, List.length_map, List.length_map] at nl
      refine .inr ⟨by rw [hlv]; simp, ?_⟩
      rcases ae_body (rising := rising) WA WB (.tup [.int 0, .int 0]) Bf vn x5 x6 x7 x8 x9 with ⟨level', y5, y6, y7, y8, y9, e, Bf', vn'⟩ | ⟨r, ρ', e, hP⟩
      · exact .inl ⟨m - level.length, _, by omega, e, found ++ level, level', d + 1, y5, y6, y7, y8, y9, rfl, Bf', vn', by rw [List.length_append]; omega, by rw [List.length_append]; omega⟩
      · refine .inr ⟨r, ρ', e, d, by omega, hP, fun n k h hb => ?_⟩
        rcases Nat.lt_or_ge n d with z | z
        · exact absurd hb (Bf.cl k ((Bf.dist n k h).2 z)).1
        · exact z
  · exact ⟨[], [.root], 0, none, none, none, none, none, rfl, Bfs.start, fun x hx => by simp at hx; subst hx; exact .root, rfl, Nat.le_refl _⟩
end
end DL
end
section
set_option Elab.async false
set_option linter.all false
set_option maxRecDepth 100000
set_option autoImplicit false
/-! The plain law: roads, numbers, hearing. -/
namespace DL
open PySem PySem.Spec
open PyProof.Rows hiding St
open L2
def rdN : Nd → List (Int × Bool)
  | .root => []
  | .mk _ b s t => rdN b ++ [(s, t)]
def eTk (p : Int × Bool) : D := .tup [.int p.1, .bl p.2]
theorem p_road (x : Nd) (h : (rdN x).length ≤ 50000) : F_road [eNd x] = some (.lst ((rdN x).map eTk)) := by
  have w := sWh_nx (c := dT (dOp gIsNot (dFld 1 (dV 2)) (dC .non))) (b := sSeq (sApp 1 (dTup (aCons (dFld 2 (dV 2)) (aCons (dFld 3 (dV 2)) aNil)))) (sSet 2 (dFld 1 (dV 2))))
    (fun m ρ => ∃ (y : Nd) (found : List (Int × Bool)), ρ = [some (eNd x), some (.lst (found.map eTk)), some (eNd y)] ∧ rdN x = rdN y ++ found.reverse ∧ m = (rdN y).length)
    (fun ρ => ∃ (X : D) (found : List (Int × Bool)) (y : Option D), ρ = [some X, some (.lst (found.map eTk)), y] ∧ rdN x = found.reverse) ?_ FU (rdN x).length
    [some (eNd x), some (.lst []), some (eNd x)] ⟨x, [], rfl, by simp, rfl⟩ (Nat.lt_of_le_of_lt h (by decide))
  · obtain ⟨ρ', e, X, found, y, rfl, hr⟩ := w
    simp [F_road, S_road, startD]
    rw [e]
    simp [hr]
  · rintro m ρ ⟨y, found, rfl, hr, hm⟩
    have hl : found.length ≤ 50000 := by
      have := congrArg List.length hr
      rw [List.length_append, List.length_reverse] at this
      omega
    have szl : (found.length < sizeLine) = True := eq_true (sz' _ (by omega))
    cases y with
    | root => exact .inl ⟨by simp [eNd, nodeF], _, found, _, rfl, hr⟩
    | mk k b s t =>
      refine .inr ⟨by simp [eNd, nodeF, nd_non], (rdN b).length, [some (eNd x), some (.lst ((found ++ [(s, t)]).map eTk)), some (eNd b)], ?_, ?_, b, _, rfl, ?_, rfl⟩
      · rw [hm]; simp [rdN]
      · simp [eNd, nodeF, szl, eTk]
      · rw [hr]; simp [rdN]
def gr (a b : Int) : Int := if a < b then b else a
def nb : List (Int × Bool) → Int → Int → List Int
  | [], _, _ => []
  | (s, t) :: r, last, heard =>
    (if s = 13 then gr (last + s) (heard + 1) else last + s) :: nb r (if t then (if s = 13 then gr (last + s) (heard + 1) else last + s) else last) (gr heard (if s = 13 then gr (last + s) (heard + 1) else last + s))
theorem nb_len : ∀ (l : List (Int × Bool)) (a b : Int), (nb l a b).length = l.length
  | [], _, _ => rfl
  | (s, t) :: r, a, b => by
    rw [nb, List.length_cons, List.length_cons, nb_len r]
theorem p_numbers (l : List (Int × Bool)) (h : l.length ≤ 50000) : F_numbers_by [.lst (l.map eTk)] = some (.tup ((nb l 0 0).map D.int)) := by
  have f := sFor_nx eTk (g := gT 2 (glC (gN 4) (glC (gN 5) glN))) (b := (sSeq (sSet 6 (dIf (dT (dOp gEq (dV 4) (dC (.int 13)))) (dCal 2 F_greater (aCons (dOp gAdd (dV 1) (dV 4)) (aCons (dOp gAdd (dV 2) (dC (.int 1))) aNil))) (dOp gAdd (dV 1) (dV 4))))
    (sSeq (sApp 3 (dV 6))
    (sSeq (sSet 2 (dCal 2 F_greater (aCons (dV 2) (aCons (dV 6) aNil))))
    (sIf (dT (dV 5)) (sSet 1 (dV 6)) sNil)))))
    (fun r ρ => ∃ (last heard : Int) (done : List Int) (x4 x5 x6 : Option D), ρ = [some (.lst (l.map eTk)), some (.int last), some (.int heard), some (.lst (done.map D.int)), x4, x5, x6] ∧ nb l 0 0 = done ++ nb r last heard)
    ?_ l [some (.lst (l.map eTk)), some (.int 0), some (.int 0), some (.lst []), none, none, none] ⟨0, 0, [], none, none, none, rfl, rfl⟩
  · obtain ⟨ρ', e, last, heard, done, x4, x5, x6, rfl, hd⟩ := f
    simp [F_numbers_by, S_numbers_by, startD]
    rw [e]
    simp [hd, nb]
  · rintro ⟨s, t⟩ r ρ ⟨last, heard, done, x4, x5, x6, rfl, hd⟩
    have hlen : done.length ≤ 50000 := by
      have := congrArg List.length hd
      rw [nb_len, List.length_append] at this
      omega
    have szl : (done.length < sizeLine) = True := eq_true (sz' _ (by omega))
    refine ⟨[some (.lst (l.map eTk)), some (.int last), some (.int heard), some (.lst (done.map D.int)), some (.int s), some (.bl t), x6],
      [some (.lst (l.map eTk)), some (.int (if t then (if s = 13 then gr (last + s) (heard + 1) else last + s) else last)), some (.int (gr heard (if s = 13 then gr (last + s) (heard + 1) else last + s))), some (.lst ((done ++ [if s = 13 then gr (last + s) (heard + 1) else last + s]).map D.int)), some (.int s), some (.bl t), some (.int (if s = 13 then gr (last + s) (heard + 1) else last + s))],
      by simp [eTk], ?_, _, _, _, _, _, _, rfl, ?_⟩
    · by_cases h13 : s = 13
      · subst h13
        cases t <;> simp [p_greater, szl, gr]
      · cases t <;> simp [p_greater, szl, gr, h13]
    · rw [hd, nb, List.append_assoc]
      rfl
/-! ### hearing -/
def eStd (r : Rest) (last : Int) : D := .tup [.int (r.1 : Nat), .int last, eO (r.2.map fun g => last + g)]
theorem p_rest_of (r : Rest) (last : Int) : F_rest_of [eStd r last] = some (eRest r) := by
  obtain ⟨s, g⟩ := r
  cases g with
  | none => simp [F_rest_of, S_rest_of, startD, eStd, eO, eRest]
  | some g =>
    simp [F_rest_of, S_rest_of, startD, eStd, eO, eRest]
    omega
theorem stepR_take {R : Rcv} {r : Rest} {s : Int} (h : (stepR R r s).1 = true) : (stepR R r s).2.2 = none := by
  unfold stepR at h ⊢
  cases q : ((R[r.1]?).getD []).find? (fun row => counts row r.2 s) with
  | none => rw [q] at h; simp at h
  | some row =>
    rw [q] at h
    obtain ⟨ah, af, dd, bh⟩ := row
    cases dd <;> simp at h ⊢
@[simp] theorem ix_Std1 (r : Rest) (last : Int) : gIx (eStd r last) (.int 1) = some (.int last) := rfl
@[simp] theorem ix_Rest0 (r : Rest) : gIx (eRest r) (.int 0) = some (.int (r.1 : Nat)) := eRest_0 r []
theorem p_hear {R : Rcv} {r : Rest} (h : r.1 < R.length) (last n : Int) : F_hear [eRc R, eStd r last, .int n] = some (.tup [.bl (stepR R r (n - last)).1, eStd (stepR R r (n - last)).2 (if (stepR R r (n - last)).1 then n else last)]) := by
  have ps := p_step R r (n - last) h
  cases ht : (stepR R r (n - last)).1 with
  | true =>
    have h2 := stepR_take ht
    have e : eStd (stepR R r (n - last)).2 n = .tup [.int ((stepR R r (n - last)).2.1 : Nat), .int n, .non] := by
      unfold eStd
      rw [h2]
      rfl
    simp [F_hear, S_hear, startD, p_rest_of, ps, eStep, ht, e]
  | false =>
    cases hg : (stepR R r (n - last)).2 with
    | mk s' g' =>
      cases g' with
      | none =>
        have e : eStd (s', none) last = .tup [.int (s' : Nat), .int last, .non] := rfl
        have e2 : gLen [eRest (s', none)] = some (.int 1) := rfl
        have e3 : gIx (eRest (s', none)) (.int 0) = some (.int (s' : Nat)) := rfl
        simp [F_hear, S_hear, startD, p_rest_of, ps, eStep, ht, hg, e, e2]
      | some g =>
        have e : eStd (s', some g) last = .tup [.int (s' : Nat), .int last, .int (last + g)] := rfl
        have e2 : gLen [eRest (s', some g)] = some (.int 2) := rfl
        have e4 : gIx (eRest (s', some g)) (.int 1) = some (.int g) := rfl
        simp [F_hear, S_hear, startD, p_rest_of, ps, eStep, ht, hg, e, e2, e4]
def ans (R : Rcv) : List Int → Rest → Int → List Bool
  | [], _, _ => []
  | n :: ns, r, last => (stepR R r (n - last)).1 :: ans R ns (stepR R r (n - last)).2 (if (stepR R r (n - last)).1 then n else last)
theorem ans_len (R : Rcv) : ∀ (ns : List Int) (r : Rest) (last : Int), (ans R ns r last).length = ns.length
  | [], _, _ => rfl
  | n :: ns, r, last => by rw [ans, List.length_cons, List.length_cons, ans_len R ns]
theorem p_answers {R : Rcv} (G : Good R) (ns : List Int) (hl : ns.length ≤ 60000) (last : Int) : F_answers [eRc R, .tup (ns.map D.int), .int last] = some (.tup ((ans R ns (0, none) last).map D.bl)) := by
  have f := sFor_nx D.int (g := gN 5) (b := sSeq (sTg (dCal 3 F_hear (aCons (dV 0) (aCons (dV 3) (aCons (dV 5) aNil)))) (gT 2 (glC (gN 6) (glC (gN 3) glN)))) (sApp 4 (dV 6)))
    (fun l ρ => ∃ (r : Rest) (lt : Int) (done : List Bool) (x5 x6 : Option D), ρ = [some (eRc R), some (.tup (ns.map D.int)), some (.int last), some (eStd r lt), some (.lst (done.map D.bl)), x5, x6] ∧ RO R.length r ∧ ans R ns (0, none) last = done ++ ans R l r lt)
    ?_ ns [some (eRc R), some (.tup (ns.map D.int)), some (.int last), some (eStd (0, none) last), some (.lst []), none, none] ⟨(0, none), last, [], none, none, rfl, ⟨G.pos, fun g e => nomatch e⟩, rfl⟩
  · obtain ⟨ρ', e, r, lt, done, x5, x6, rfl, _, hd⟩ := f
    have hb : F_beginning [.int last] = some (eStd (0, none) last) := rfl
    have hw : F_walked [eRc R, .tup (ns.map D.int), .int last] = some (.tup [.tup (done.map D.bl), eStd r lt]) := by
      simp [F_walked, S_walked, startD, hb]
      rw [e]
      simp
    simp [F_answers, S_answers, startD, hw, hd, ans]
  · rintro n l ρ ⟨r, lt, done, x5, x6, rfl, hr, hd⟩
    have ph := p_hear (R := R) hr.1 lt n
    have hlen : done.length ≤ 60000 := by
      have := congrArg List.length hd
      rw [ans_len, List.length_append] at this
      omega
    have szl : (done.length < sizeLine) = True := eq_true (sz' _ (by omega))
    refine ⟨[some (eRc R), some (.tup (ns.map D.int)), some (.int last), some (eStd r lt), some (.lst (done.map D.bl)), some (.int n), x6],
      [some (eRc R), some (.tup (ns.map D.int)), some (.int last), some (eStd (stepR R r (n - lt)).2 (if (stepR R r (n - lt)).1 then n else lt)), some (.lst ((done ++ [(stepR R r (n - lt)).1]).map D.bl)), some (.int n), some (.bl (stepR R r (n - lt)).1)], by simp, ?_, _, _, _, _, _, rfl, stepR_ok G hr _, ?_⟩
    · simp [ph, szl]
    · rw [hd, ans, List.append_assoc]
      rfl
end DL
end
section
set_option Elab.async false
set_option linter.all false
set_option maxRecDepth 100000
set_option autoImplicit false
/-! The plain law: mathematics of two receivers side by side. -/
namespace DL
open PySem PySem.Spec
open PyProof.Rows hiding St
open L2
/-! ### steps beyond 13 -/
def clp (s : Int) : Int := if s < -13 then -13 else if 13 < s then 13 else s
theorem clp_mem (s : Int) : clp s ∈ ST := by
  rw [mem_ST]
  unfold clp
  split
  · omega
  · split <;> omega
theorem clp_of {s : Int} (h1 : -13 ≤ s) (h2 : s ≤ 13) : clp s = s := by
  unfold clp
  rw [if_neg (by omega), if_neg (by omega)]
theorem lies_clp {s g : Int} {r : Rng} (h : rngOk r) (h1 : -6 ≤ g) (h2 : g ≤ 6) : lies (s - g) r = lies (clp s - g) r := by
  obtain ⟨lo, hi⟩ := r
  have hl : ∀ a, lo = some a → ((a ≤ s - g) ↔ (a ≤ clp s - g)) := fun a e => by
    have := h.1 a e
    unfold clp
    split
    · omega
    · split <;> omega
  have hh : ∀ b, hi = some b → ((s - g ≤ b) ↔ (clp s - g ≤ b)) := fun b e => by
    have := h.2 b e
    unfold clp
    split
    · omega
    · split <;> omega
  unfold lies
  cases lo <;> cases hi <;> simp
  · rename_i b
    simp only [hh b rfl]
  · rename_i a
    simp only [hl a rfl]
  · rename_i a b
    simp only [hl a rfl, hh b rfl]
theorem counts_clp {n : Nat} {row : Row} (h : RowOk n row) {gap : Option Int} (hg : ∀ g, gap = some g → -6 ≤ g ∧ g ≤ 6) (s : Int) : counts row gap s = counts row gap (clp s) := by
  have e := lies_clp (s := s) (g := 0) h.ah (by omega) (by omega)
  rw [Int.sub_zero, Int.sub_zero] at e
  unfold counts
  rw [e]
  cases ha : row.after with
  | none => rfl
  | some a =>
    cases hgap : gap with
    | none => rfl
    | some g =>
      have := hg g hgap
      simp only
      rw [lies_clp (s := s) (h.af a ha) this.1 this.2]
theorem find_congr {α : Type} {p q : α → Bool} : ∀ {l : List α}, (∀ x ∈ l, p x = q x) → l.find? p = l.find? q
  | [], _ => rfl
  | x :: l, h => by
    rw [List.find?_cons, List.find?_cons, h x (by simp), find_congr fun y hy => h y (by simp [hy])]
theorem stepR_clp {R : Rcv} (G : Good R) {r : Rest} (hr : RO R.length r) (s : Int) : stepR R r s = stepR R r (clp s) := by
  have h1 := hr.1
  unfold stepR
  rw [List.getElem?_eq_getElem h1, Option.getD_some]
  have hm : ∀ row ∈ R[r.1], RowOk R.length row := fun row hrow => G.row _ (List.getElem_mem h1) row hrow
  have e : R[r.1].find? (fun row => counts row r.2 s) = R[r.1].find? (fun row => counts row r.2 (clp s)) := find_congr fun row hrow => counts_clp (hm row hrow) hr.2 s
  rw [← e]
  cases q : R[r.1].find? (fun row => counts row r.2 s) with
  | none => rfl
  | some row =>
    have hk := hm row (List.mem_of_find?_eq_some q)
    have hc := List.find?_some q
    obtain ⟨ah, af, dd, bh⟩ := row
    cases dd with
    | keep =>
      obtain ⟨a, b, ab⟩ := hk.kp rfl
      simp only [counts, Bool.and_eq_true] at hc
      have hl : lies s ah = true := hc.1
      have ab : ah = (some a, some b) := ab
      rw [ab] at hl
      have l := lies_keep hl
      have h1 := hk.ah.1 a (by show ah.1 = _; rw [ab])
      have h2 := hk.ah.2 b (by show ah.2 = _; rw [ab])
      simp only
      rw [clp_of (by omega) (by omega)]
    | _ => rfl
/-! ### two receivers -/
abbrev Cf := Rest × Rest × Nat
section
variable (rising : Bool) (A B : Rcv)
def cA (c : Cf) (s : Int) : Bool := (stepR A c.1 s).1
def cB (c : Cf) (s : Int) : Bool := (stepR B c.2.1 s).1
def nxC (c : Cf) (s : Int) : Cf := ((stepR A c.1 s).2, (stepR B c.2.1 s).2, ahd rising c.2.2 s (stepR A c.1 s).1)
def sucC (c c' : Cf) : Prop := ∃ s ∈ stepsR rising c.2.2, cA A c s = cB B c s ∧ c' = nxC rising A B c s
def badC (c : Cf) : Prop := ∃ s ∈ stepsR rising c.2.2, cA A c s = true ∧ cB B c s = false
def unC (c : Cf) : Prop := ∃ s ∈ stepsR rising c.2.2, cA A c s ≠ cB B c s
def c00 : Cf := ((0, none), (0, none), 0)
abbrev RC (n : Nat) (c : Cf) : Prop := Rch (sucC rising A B) c00 n c
def UN : Prop := ∃ n c, RC rising A B n c ∧ unC rising A B c
def OV : Prop := ∃ n c, RC rising A B n c ∧ badC rising A B c
end
section
variable {rising : Bool} {A B C : Rcv}
theorem OV.un (h : OV rising A B) : UN rising A B := by
  obtain ⟨n, c, h1, s, hs, h2, h3⟩ := h
  exact ⟨n, c, h1, s, hs, by rw [h2, h3]; simp⟩
/-- the same, seen from the other side -/
theorem RC.swap {n : Nat} {c : Cf} (h : RC rising A B n c) : RC rising B A n (c.2.1, c.1, c.2.2) := by
  induction h with
  | zero => exact .zero
  | succ h s ih =>
    obtain ⟨t, ht, e, rfl⟩ := s
    refine .succ ih ⟨t, ht, e.symm, ?_⟩
    unfold nxC
    unfold cA cB at e
    simp only
    rw [e]
theorem UN.split (h : UN rising A B) : OV rising A B ∨ OV rising B A := by
  obtain ⟨n, c, h1, s, hs, h2⟩ := h
  cases ha : cA A c s with
  | true =>
    cases hb : cB B c s with
    | true => rw [ha, hb] at h2; exact absurd rfl h2
    | false => exact .inl ⟨n, c, h1, s, hs, ha, hb⟩
  | false =>
    cases hb : cB B c s with
    | false => rw [ha, hb] at h2; exact absurd rfl h2
    | true => exact .inr ⟨n, _, h1.swap, s, hs, hb, ha⟩
theorem UN.swap (h : UN rising A B) : UN rising B A := by
  obtain ⟨n, c, h1, s, hs, h2⟩ := h
  exact ⟨n, _, RC.swap h1, s, hs, fun e => h2 e.symm⟩
theorem both_iff : (¬ OV rising A B ∧ ¬ OV rising B A) ↔ ¬ UN rising A B :=
  ⟨fun h u => u.split.elim h.1 h.2, fun h => ⟨fun b => h b.un, fun b => h b.un.swap⟩⟩
theorem RC.free {n : Nat} {c : Cf} (h : RC true A B n c) : RC false A B n (c.1, c.2.1, 0) := by
  induction h with
  | zero => exact .zero
  | succ h s ih =>
    obtain ⟨t, ht, e, rfl⟩ := s
    refine .succ ih ⟨t, steps_ST ht, e, ?_⟩
    rfl
theorem UN.free (h : UN true A B) : UN false A B := by
  obtain ⟨n, c, h1, s, hs, h2⟩ := h
  exact ⟨n, _, RC.free h1, s, steps_ST hs, h2⟩
theorem OV.free (h : OV true A B) : OV false A B := by
  obtain ⟨n, c, h1, s, hs, h2⟩ := h
  exact ⟨n, _, RC.free h1, s, steps_ST hs, h2⟩
theorem OV.trans (h1 : ¬ OV rising A B) (h2 : ¬ OV rising B C) : ¬ OV rising A C := by
  have key : ∀ n c, RC rising A C n c → ∃ rB, RC rising A B n (c.1, rB, c.2.2) ∧ RC rising B C n (rB, c.2.1, c.2.2) := by
    intro n c h
    induction h with
    | zero => exact ⟨(0, none), .zero, .zero⟩
    | succ h s ih =>
      rename_i n k k'
      obtain ⟨t, ht, e, rfl⟩ := s
      obtain ⟨rB, i1, i2⟩ := ih
      have e' : (stepR A k.1 t).1 = (stepR C k.2.1 t).1 := e
      have hb : (stepR B rB t).1 = (stepR A k.1 t).1 := by
        cases qa : (stepR A k.1 t).1 with
        | true =>
          cases qb : (stepR B rB t).1 with
          | true => rfl
          | false => exact absurd ⟨n, _, i1, t, ht, qa, qb⟩ h1
        | false =>
          cases qb : (stepR B rB t).1 with
          | false => rfl
          | true => exact absurd ⟨n, _, i2, t, ht, qb, by show (stepR C k.2.1 t).1 = false; rw [← e', qa]⟩ h2
      refine ⟨(stepR B rB t).2, .succ i1 ⟨t, ht, hb.symm, rfl⟩, .succ i2 ⟨t, ht, ?_, ?_⟩⟩
      · show (stepR B rB t).1 = (stepR C k.2.1 t).1
        rw [hb, e']
      · unfold nxC
        simp only
        rw [hb]
  rintro ⟨n, c, h, s, hs, ha, hc⟩
  obtain ⟨rB, i1, i2⟩ := key n c h
  cases qb : (stepR B rB s).1 with
  | true => exact h2 ⟨n, _, i2, s, hs, qb, hc⟩
  | false => exact h1 ⟨n, _, i1, s, hs, ha, qb⟩
/-- rests that answer alike for ever -/
theorem alike_of (S : Rest → Rest → Prop) (h0 : S (0, none) (0, none)) (hs : ∀ r r', S r r' → ∀ s, (stepR A r s).1 = (stepR B r' s).1 ∧ S (stepR A r s).2 (stepR B r' s).2) : ¬ UN rising A B := by
  have key : ∀ n c, RC rising A B n c → S c.1 c.2.1 := by
    intro n c h
    induction h with
    | zero => exact h0
    | succ h s ih =>
      obtain ⟨t, _, _, rfl⟩ := s
      exact (hs _ _ ih t).2
  rintro ⟨n, c, h, s, _, hn⟩
  exact hn (hs _ _ (key n c h) s).1
/-- what takes more -/
theorem above_of (hs : ∀ r s, (stepR A r s = stepR B r s) ∨ ((stepR A r s).1 = false ∧ (stepR B r s).1 = true)) : ¬ OV rising A B := by
  have key : ∀ n c, RC rising A B n c → c.1 = c.2.1 := by
    intro n c h
    induction h with
    | zero => rfl
    | succ h s ih =>
      rename_i n k k'
      obtain ⟨t, _, e, rfl⟩ := s
      unfold cA cB at e
      rw [← ih] at e
      unfold nxC
      simp only
      rw [← ih]
      rcases hs k.1 t with q | ⟨q1, q2⟩
      · rw [q]
      · rw [q1, q2] at e
        cases e
  rintro ⟨n, c, h, s, _, ha, hb⟩
  have e := key n c h
  unfold cA at ha
  unfold cB at hb
  rw [← e] at hb
  rcases hs c.1 s with q | ⟨q1, q2⟩
  · rw [q, hb] at ha
    cases ha
  · rw [q1] at ha
    cases ha
end
/-! ### forms stand for receivers -/
section
variable {rising : Bool} {A B : Rcv} {fA fB : List (List BN)} {ψA ψB : Rest → Nat} {VA VB : Rest → Prop}
theorem rc_rch (FA : FormOf A fA ψA VA) (FB : FormOf B fB ψB VB) {n : Nat} {c : Cf} (h : RC rising A B n c) : VA c.1 ∧ VB c.2.1 ∧ Rch (sucK fA fB rising) (0, 0, 0) n (ψA c.1, ψB c.2.1, c.2.2) := by
  induction h with
  | zero =>
    refine ⟨FA.v0, FB.v0, ?_⟩
    show Rch _ _ 0 (ψA (0, none), ψB (0, none), 0)
    rw [FA.z0, FB.z0]
    exact .zero
  | succ h s ih =>
    rename_i n k k'
    obtain ⟨t, ht, e, rfl⟩ := s
    obtain ⟨va, vb, q⟩ := ih
    have ta := FA.fat va (steps_ST ht)
    have tb := FB.fat vb (steps_ST ht)
    refine ⟨FA.nx _ va t (steps_ST ht), FB.nx _ vb t (steps_ST ht), .succ q ⟨t, ht, ?_, ?_⟩⟩
    · show (fat fA (ψA k.1) t).1 = (fat fB (ψB k.2.1) t).1
      rw [ta, tb]
      exact e
    · unfold nxK nxC
      simp only
      rw [ta, tb]
theorem rch_rc (FA : FormOf A fA ψA VA) (FB : FormOf B fB ψB VB) {n : Nat} {k : Ky} (h : Rch (sucK fA fB rising) (0, 0, 0) n k) : ∃ c, RC rising A B n c ∧ VA c.1 ∧ VB c.2.1 ∧ k = (ψA c.1, ψB c.2.1, c.2.2) := by
  induction h with
  | zero => exact ⟨c00, .zero, FA.v0, FB.v0, by show _ = (ψA (0, none), ψB (0, none), 0); rw [FA.z0, FB.z0]⟩
  | succ h s ih =>
    obtain ⟨t, ht, e, rfl⟩ := s
    obtain ⟨c, hc, va, vb, rfl⟩ := ih
    have ta := FA.fat va (steps_ST ht)
    have tb := FB.fat vb (steps_ST ht)
    unfold yA yB at e
    simp only at e
    rw [ta, tb] at e
    refine ⟨nxC rising A B c t, .succ hc ⟨t, ht, e, rfl⟩, FA.nx _ va t (steps_ST ht), FB.nx _ vb t (steps_ST ht), ?_⟩
    unfold nxK nxC
    simp only
    rw [ta, tb]
theorem un_iff (FA : FormOf A fA ψA VA) (FB : FormOf B fB ψB VB) {c : Cf} (va : VA c.1) (vb : VB c.2.1) : unK fA fB rising (ψA c.1, ψB c.2.1, c.2.2) ↔ unC rising A B c := by
  unfold unK unC yA yB cA cB
  constructor
  · rintro ⟨s, hs, h⟩
    simp only at h
    rw [FA.fat va (steps_ST hs), FB.fat vb (steps_ST hs)] at h
    exact ⟨s, hs, h⟩
  · rintro ⟨s, hs, h⟩
    refine ⟨s, hs, ?_⟩
    simp only
    rw [FA.fat va (steps_ST hs), FB.fat vb (steps_ST hs)]
    exact h
theorem bad_iff (FA : FormOf A fA ψA VA) (FB : FormOf B fB ψB VB) {c : Cf} (va : VA c.1) (vb : VB c.2.1) : badK fA fB rising (ψA c.1, ψB c.2.1, c.2.2) ↔ badC rising A B c := by
  unfold badK badC yA yB cA cB
  constructor
  · rintro ⟨s, hs, h1, h2⟩
    simp only at h1 h2
    rw [FA.fat va (steps_ST hs)] at h1
    rw [FB.fat vb (steps_ST hs)] at h2
    exact ⟨s, hs, h1, h2⟩
  · rintro ⟨s, hs, h1, h2⟩
    refine ⟨s, hs, ?_, ?_⟩
    · simp only
      rw [FA.fat va (steps_ST hs)]
      exact h1
    · simp only
      rw [FB.fat vb (steps_ST hs)]
      exact h2
end
open Classical in
/-- below, at last -/
theorem p_below (rising : Bool) {A B : Rcv} (GA : Good A) (GB : Good B) : F_below [eRc A, eRc B, .bl rising] = some (.bl (decide (¬ OV rising A B))) := by
  obtain ⟨fA, ψA, VA, eA, FA⟩ := p_form GA
  obtain ⟨fB, ψB, VB, eB, FB⟩ := p_form GB
  obtain ⟨b, e, hb⟩ := p_below_form (rising := rising) FA.WF FB.WF eA eB
  rw [e]
  congr 2
  have : b = true ↔ ¬ OV rising A B := by
    rw [hb]
    constructor
    · rintro h ⟨n, c, hc, hbad⟩
      obtain ⟨va, vb, q⟩ := rc_rch FA FB hc
      exact h n _ q ((bad_iff FA FB va vb).mpr hbad)
    · intro h n k hk hbad
      obtain ⟨c, hc, va, vb, rfl⟩ := rch_rc FA FB hk
      exact h ⟨n, c, hc, (bad_iff FA FB va vb).mp hbad⟩
  by_cases h : OV rising A B
  · rw [decide_eq_false (by simpa using h)]
    cases b with
    | false => rfl
    | true => exact absurd h (this.mp rfl)
  · rw [decide_eq_true h]
    exact this.mpr h
end DL
end
section
set_option Elab.async false
set_option linter.all false
set_option maxRecDepth 100000
set_option autoImplicit false
/-! The plain law: parting, alike, parting_holds. -/
namespace DL
open PySem PySem.Spec
open PyProof.Rows hiding St
open L2
/-! ### a road's numbers -/
def num (s : Int) (lh : Int × Int) : Int := if s = 13 then gr (lh.1 + s) (lh.2 + 1) else lh.1 + s
def stN (lh : Int × Int) (p : Int × Bool) : Int × Int := (if p.2 then num p.1 lh else lh.1, gr lh.2 (num p.1 lh))
def finN (l : List (Int × Bool)) (lh : Int × Int) : Int × Int := l.foldl stN lh
theorem nb_snoc (s : Int) (t : Bool) : ∀ (l : List (Int × Bool)) (a b : Int), nb (l ++ [(s, t)]) a b = nb l a b ++ [num s (finN l (a, b))]
  | [], _, _ => rfl
  | (s', t') :: r, a, b => by
    rw [List.cons_append, nb, nb, nb_snoc s t r]
    rfl
theorem finN_snoc (p : Int × Bool) (l : List (Int × Bool)) (lh : Int × Int) : finN (l ++ [p]) lh = stN (finN l lh) p := by
  unfold finN
  rw [List.foldl_append]
  rfl
def stR (R : Rcv) (rl : Rest × Int) (n : Int) : Rest × Int := ((stepR R rl.1 (n - rl.2)).2, if (stepR R rl.1 (n - rl.2)).1 then n else rl.2)
def finR (R : Rcv) (ns : List Int) (rl : Rest × Int) : Rest × Int := ns.foldl (stR R) rl
theorem ans_snoc (R : Rcv) (n : Int) : ∀ (ns : List Int) (r : Rest) (last : Int), ans R (ns ++ [n]) r last = ans R ns r last ++ [(stepR R (finR R ns (r, last)).1 (n - (finR R ns (r, last)).2)).1]
  | [], _, _ => rfl
  | m :: ns, r, last => by
    rw [List.cons_append, ans, ans, ans_snoc R n ns]
    rfl
theorem finR_snoc (R : Rcv) (n : Int) (ns : List Int) (rl : Rest × Int) : finR R (ns ++ [n]) rl = stR R (finR R ns rl) n := by
  unfold finR
  rw [List.foldl_append]
  rfl
def asc (p : Int) : List Int → Bool
  | [] => true
  | n :: r => decide (p < n) && asc n r
theorem asc_snoc (n : Int) : ∀ (l : List Int) (p : Int), asc p (l ++ [n]) = (asc p l && decide (l.getLast?.getD p < n))
  | [], p => Bool.and_comm (decide (p < n)) true
  | m :: r, p => by
    rw [List.cons_append, asc, asc, asc_snoc n r, Bool.and_assoc]
    have e : r.getLast?.getD m = (m :: r).getLast?.getD p := by
      cases r with
      | nil => rfl
      | cons x r => simp [List.getLast?_cons]
    rw [e]
inductive PL (rising : Bool) (A B : Rcv) : List (Int × Bool) → Cf → Prop
  | nil : PL rising A B [] c00
  | snoc {l : List (Int × Bool)} {c : Cf} {s : Int} (h : PL rising A B l c) (hs : s ∈ stepsR rising c.2.2) (hab : cA A c s = cB B c s) : PL rising A B (l ++ [(s, cA A c s)]) (nxC rising A B c s)
structure RI (rising : Bool) (A B : Rcv) (l : List (Int × Bool)) (c : Cf) : Prop where
  aA : ans A (nb l 0 0) (0, none) 0 = l.map (·.2)
  aB : ans B (nb l 0 0) (0, none) 0 = l.map (·.2)
  fA : finR A (nb l 0 0) ((0, none), 0) = (c.1, (finN l (0, 0)).1)
  fB : finR B (nb l 0 0) ((0, none), 0) = (c.2.1, (finN l (0, 0)).1)
  oA : RO A.length c.1
  oB : RO B.length c.2.1
  le : (finN l (0, 0)).1 ≤ (finN l (0, 0)).2
  up : rising = true → (c.2.2 : Int) = min ((finN l (0, 0)).2 - (finN l (0, 0)).1) 13 ∧ asc 0 (nb l 0 0) = true ∧ (nb l 0 0).getLast?.getD 0 = (finN l (0, 0)).2
theorem num_clp {s : Int} (hs : s ∈ ST) (lh : Int × Int) : clp (num s lh - lh.1) = s := by
  rw [mem_ST] at hs
  unfold num gr
  by_cases h : s = 13
  · subst h
    rw [if_pos rfl]
    unfold clp
    split <;> split <;> omega
  · rw [if_neg h]
    rw [show lh.1 + s - lh.1 = s by omega]
    exact clp_of hs.1 hs.2
theorem PL.inv {rising : Bool} {A B : Rcv} (GA : Good A) (GB : Good B) {l : List (Int × Bool)} {c : Cf} (h : PL rising A B l c) : RI rising A B l c := by
  induction h with
  | nil => exact ⟨rfl, rfl, rfl, rfl, ⟨GA.pos, fun g e => nomatch e⟩, ⟨GB.pos, fun g e => nomatch e⟩, by decide, fun _ => ⟨rfl, rfl, rfl⟩⟩
  | snoc h hs hab ih =>
    rename_i l c s
    have eA : stepR A c.1 (num s (finN l (0, 0)) - (finN l (0, 0)).1) = stepR A c.1 s := by rw [stepR_clp GA ih.oA, num_clp (steps_ST hs)]
    have eB : stepR B c.2.1 (num s (finN l (0, 0)) - (finN l (0, 0)).1) = stepR B c.2.1 s := by rw [stepR_clp GB ih.oB, num_clp (steps_ST hs)]
    have hab' : (stepR A c.1 s).1 = (stepR B c.2.1 s).1 := hab
    refine ⟨?_, ?_, ?_, ?_, stepR_ok GA ih.oA s, stepR_ok GB ih.oB s, ?_, fun hr => ?_⟩
    · rw [nb_snoc, ans_snoc, ih.aA, ih.fA, eA, List.map_append]
      rfl
    · rw [nb_snoc, ans_snoc, ih.aB, ih.fB, eB, List.map_append, ← hab']
      rfl
    · rw [nb_snoc, finR_snoc, ih.fA, finN_snoc]
      unfold stR stN
      simp only
      rw [eA]
      rfl
    · rw [nb_snoc, finR_snoc, ih.fB, finN_snoc]
      unfold stR stN
      simp only
      rw [eB, ← hab']
      rfl
    · rw [finN_snoc]
      have := ih.le
      unfold stN gr
      simp only
      split <;> split <;> omega
    · subst hr
      obtain ⟨u1, u2, u3⟩ := ih.up rfl
      have hs' := mem_rising.mp hs
      have hn : (finN l (0, 0)).2 < num s (finN l (0, 0)) := by
        unfold num gr
        by_cases h13 : s = 13
        · rw [if_pos h13]
          split <;> omega
        · rw [if_neg h13]
          omega
      refine ⟨?_, ?_, ?_⟩
      · rw [finN_snoc]
        unfold stN nxC ahd
        simp only [if_true]
        unfold cA
        have g1 : gr (finN l (0, 0)).2 (num s (finN l (0, 0))) = num s (finN l (0, 0)) := by
          unfold gr
          rw [if_pos hn]
        rw [g1]
        have hc := num_clp (steps_ST hs) (finN l (0, 0))
        cases ht : (stepR A c.1 s).1 with
        | true =>
          simp only [if_true]
          omega
        | false =>
          simp only [Bool.false_eq_true, if_false]
          unfold clp at hc
          split at hc
          · omega
          · split at hc <;> omega
      · rw [nb_snoc, asc_snoc, u2, u3, decide_eq_true hn]
        rfl
      · rw [nb_snoc, finN_snoc]
        unfold stN gr
        simp [hn]
/-! ### parting -/
structure Pt (rising : Bool) (A B : Rcv) (ns : List Int) : Prop where
  df : ∃ (bs : List Bool) (u v : Bool), u ≠ v ∧ ans A ns (0, none) 0 = bs ++ [u] ∧ ans B ns (0, none) 0 = bs ++ [v]
  up : rising = true → asc 0 ns = true
  few : ns.length ≤ 50000
  min : ∀ m c, RC rising A B m c → unC rising A B c → ns.length ≤ m + 1
  ne : ns ≠ []
theorem vn_pl {rising : Bool} {A B : Rcv} {fA fB : List (List BN)} {ψA ψB : Rest → Nat} {VA VB : Rest → Prop} (FA : FormOf A fA ψA VA) (FB : FormOf B fB ψB VB) {n : Nat} {x : Nd} (h : VN fA fB rising n x) :
    ∃ c, PL rising A B (rdN x) c ∧ (rdN x).length = n ∧ VA c.1 ∧ VB c.2.1 ∧ x.key = (ψA c.1, ψB c.2.1, c.2.2) := by
  induction h with
  | root => exact ⟨c00, .nil, rfl, FA.v0, FB.v0, by show _ = (ψA (0, none), ψB (0, none), 0); rw [FA.z0, FB.z0]; rfl⟩
  | mk h hs hab ih =>
    rename_i n b s
    obtain ⟨c, hc, hl, va, vb, e⟩ := ih
    have ta := FA.fat va (steps_ST hs)
    have tb := FB.fat vb (steps_ST hs)
    have e1 : yA fA b.key s = cA A c s := by
      unfold yA cA
      rw [e]
      simp only
      rw [ta]
    have e2 : yB fB b.key s = cB B c s := by
      unfold yB cB
      rw [e]
      simp only
      rw [tb]
    have hs' : s ∈ stepsR rising c.2.2 := by rw [e] at hs; exact hs
    have er : rdN (mkN fA fB rising b s) = rdN b ++ [(s, cA A c s)] := by
      rw [← e1]
      rfl
    refine ⟨nxC rising A B c s, ?_, ?_, FA.nx _ va s (steps_ST hs), FB.nx _ vb s (steps_ST hs), ?_⟩
    · rw [er]
      exact .snoc hc hs' (by rw [← e1, ← e2]; exact hab)
    · rw [er, List.length_append, hl]
      rfl
    · show nxK fA fB rising b.key s = _
      unfold nxK nxC
      rw [e]
      simp only
      rw [ta, tb]
theorem p_parting (rising : Bool) {A B : Rcv} (GA : Good A) (GB : Good B) : (¬ UN rising A B ∧ F_parting [eRc A, eRc B, .bl rising] = some .non) ∨
    (UN rising A B ∧ ∃ ns, Pt rising A B ns ∧ F_parting [eRc A, eRc B, .bl rising] = some (.tup (ns.map D.int))) := by
  obtain ⟨fA, ψA, VA, eA, FA⟩ := p_form GA
  obtain ⟨fB, ψB, VB, eB, FB⟩ := p_form GB
  rcases p_all_nodes (rising := rising) FA.WF FB.WF with ⟨F, e, h⟩ | ⟨d, F, x, s, vn, hs, hab, hd, e, hmin⟩
  · refine .inl ⟨?_, ?_⟩
    · rintro ⟨n, c, hc, hu⟩
      obtain ⟨va, vb, q⟩ := rc_rch FA FB hc
      exact h n _ q ((un_iff FA FB va vb).mpr hu)
    · simp [F_parting, S_parting, startD, eA, eB, e]
  · obtain ⟨c, hc, hl, va, vb, ek⟩ := vn_pl FA FB vn
    have ta := FA.fat va (steps_ST hs)
    have tb := FB.fat vb (steps_ST hs)
    have e1 : yA fA x.key s = cA A c s := by
      unfold yA cA
      rw [ek]
      simp only
      rw [ta]
    have e2 : yB fB x.key s = cB B c s := by
      unfold yB cB
      rw [ek]
      simp only
      rw [tb]
    have hs' : s ∈ stepsR rising c.2.2 := by rw [ek] at hs; exact hs
    have er : rdN (mkN fA fB rising x s) = rdN x ++ [(s, cA A c s)] := by
      rw [← e1]
      rfl
    have hne : cA A c s ≠ cB B c s := by rw [← e1, ← e2]; exact hab
    have I := hc.inv GA GB
    have eA' : stepR A c.1 (num s (finN (rdN x) (0, 0)) - (finN (rdN x) (0, 0)).1) = stepR A c.1 s := by rw [stepR_clp GA I.oA, num_clp (steps_ST hs)]
    have eB' : stepR B c.2.1 (num s (finN (rdN x) (0, 0)) - (finN (rdN x) (0, 0)).1) = stepR B c.2.1 s := by rw [stepR_clp GB I.oB, num_clp (steps_ST hs)]
    have ll : (rdN (mkN fA fB rising x s)).length = d + 1 := by rw [er, List.length_append, hl]; rfl
    have rch : ∃ n, RC rising A B n c := by
      obtain ⟨c', hc', va', vb', q⟩ := rch_rc FA FB vn.rch
      have : ∀ {l c}, PL rising A B l c → ∃ n, RC rising A B n c := by
        intro l c h
        induction h with
        | nil => exact ⟨0, .zero⟩
        | snoc h hs hab ih =>
          obtain ⟨n, hn⟩ := ih
          exact ⟨n + 1, .succ hn ⟨_, hs, hab, rfl⟩⟩
      exact this hc
    refine .inr ⟨?_, nb (rdN (mkN fA fB rising x s)) 0 0, ⟨⟨(rdN x).map (·.2), cA A c s, cB B c s, hne, ?_, ?_⟩, fun hr => ?_, ?_, ?_, ?_⟩, ?_⟩
    · obtain ⟨n, hn⟩ := rch
      exact ⟨n, c, hn, s, hs', hne⟩
    · rw [er, nb_snoc, ans_snoc, I.aA, I.fA, eA']
      rfl
    · rw [er, nb_snoc, ans_snoc, I.aB, I.fB, eB']
      rfl
    · subst hr
      obtain ⟨u1, u2, u3⟩ := I.up rfl
      have hs2 := mem_rising.mp hs'
      have hle := I.le
      have hn : (finN (rdN x) (0, 0)).2 < num s (finN (rdN x) (0, 0)) := by
        unfold num gr
        by_cases h13 : s = 13
        · rw [if_pos h13]
          split <;> omega
        · rw [if_neg h13]
          omega
      rw [er, nb_snoc, asc_snoc, u2, u3, decide_eq_true hn]
      rfl
    · rw [nb_len, ll]
      omega
    · intro m c' hc' hu
      rw [nb_len, ll]
      obtain ⟨va', vb', q⟩ := rc_rch FA FB hc'
      have := hmin m _ q ((un_iff FA FB va' vb').mpr hu)
      omega
    · intro z
      have := congrArg List.length z
      rw [nb_len, ll] at this
      simp at this
    · have pr := p_road (mkN fA fB rising x s) (by rw [ll]; omega)
      have pn := p_numbers (rdN (mkN fA fB rising x s)) (by rw [ll]; omega)
      have em : dMet F_road (dV 3) [some (eRc A), some (eRc B), some (.bl rising), some (eNd (mkN fA fB rising x s))] = some (.lst ((rdN (mkN fA fB rising x s)).map eTk), [some (eRc A), some (eRc B), some (.bl rising), some (eNd (mkN fA fB rising x s))]) := by
        have e0 : dV 3 [some (eRc A), some (eRc B), some (.bl rising), some (eNd (mkN fA fB rising x s))] = some (.node (eK (nxK fA fB rising x.key s)) (eNd x) (.int s) (.bl (yA fA x.key s)), [some (eRc A), some (eRc B), some (.bl rising), some (eNd (mkN fA fB rising x s))]) := rfl
        rw [e_dMet, e0]
        show (F_road [eNd (mkN fA fB rising x s)]).map _ = _
        rw [pr]
        rfl
      simp [F_parting, S_parting, startD, eA, eB, e, nd_non, -e_dMet, em, pn]
open Classical in
theorem p_alike (rising : Bool) {A B : Rcv} (GA : Good A) (GB : Good B) : F_alike [eRc A, eRc B, .bl rising] = some (.bl (decide (¬ UN rising A B))) := by
  rcases p_parting rising GA GB with ⟨h, e⟩ | ⟨h, ns, _, e⟩
  · simp [F_alike, S_alike, startD, e, h]
  · simp [F_alike, S_alike, startD, e, h]
/-! ### parting_holds -/
theorem kit_tt : kitB "tuple" "tuple" = some true := by decide +kernel
theorem kit_ii : kitB "int" "int" = some true := by decide +kernel
theorem kit_ib : kitB "int" "bool" = some false := by decide +kernel
theorem p_is_integer (i : Int) : F_is_integer [.int i] = some (.bl true) := by
  simp [F_is_integer, S_is_integer, startD, tyName, kit_ii, kit_ib]
theorem p_are_numbers (ns : List Int) (h : ns.length ≤ 50000) : F_are_numbers [.tup (ns.map D.int)] = some (.bl true) := by
  have c : lcL [1] (gN 1) bYes (dCal 1 F_is_integer (aCons (dV 1) aNil)) (ns.map D.int) [some (.tup (ns.map D.int)), none] = some (ns.map fun _ => D.bl true, [some (.tup (ns.map D.int)), none]) :=
    lc_all D.int (fun _ => D.bl true) ns fun n _ => ⟨[some (.tup (ns.map D.int)), some (.int n)], by simp, by simp [p_is_integer], rfl⟩
  have b : bools (ns.map fun _ => D.bl true) = some (ns.map fun _ => true) := bools_map (fun _ : Int => true) ns
  have szl : (ns.length < sizeLine) = True := eq_true (sz' _ (by omega))
  simp [F_are_numbers, S_are_numbers, startD, tyName, kit_tt, szl, wipeD]
  rw [c]
  simp
  rw [b]
  simp
theorem p_is_rising (ns : List Int) (h : ns.length ≤ 50000) : F_is_rising [.tup (ns.map D.int)] = some (.bl (asc 0 ns)) := by
  have key : ∀ (ns : List Int) (p : Int) (X : D), ∃ bs : List Bool, lcL [1, 2] (gT 2 (glC (gN 1) (glC (gN 2) glN))) bYes (dOp gLt (dV 1) (dV 2)) (zipD (D.int p :: ns.map D.int) (ns.map D.int)) [some X, none, none] = some (bs.map D.bl, [some X, none, none]) ∧ bs.all id = asc p ns := by
    intro ns
    induction ns with
    | nil => exact fun p X => ⟨[], rfl, rfl⟩
    | cons n r ih =>
      intro p X
      obtain ⟨bs, e, ha⟩ := ih n X
      refine ⟨decide (p < n) :: bs, ?_, ?_⟩
      · show lcL [1, 2] _ _ _ (D.tup [.int p, .int n] :: zipD (D.int n :: r.map D.int) (r.map D.int)) _ = _
        rw [lcL]
        simp
        simp [wipeD]
        rw [e]
      · rw [List.all_cons, ha]
        rfl
  obtain ⟨bs, e, ha⟩ := key ns 0 (.tup (ns.map D.int))
  have b : bools (bs.map D.bl) = some bs := by
    have := bools_map (fun b : Bool => b) bs
    rw [List.map_id'] at this
    exact this
  have szl : (1 + ns.length ≤ sizeLine) = True := eq_true (sz _ (by omega))
  have zl : (zipD (D.int 0 :: ns.map D.int) (ns.map D.int)).length = ns.length := by
    unfold zipD
    rw [List.length_map, List.length_zip, List.length_cons, List.length_map]
    omega
  have szl2 : (ns.length < sizeLine) = True := eq_true (sz' _ (by omega))
  simp [F_is_rising, S_is_rising, startD, szl, zl, szl2, wipeD]
  rw [e]
  simp [b, ← ha]
theorem en_bt : EnOk (fun l : List Bool => D.tup (l.map D.bl)) 1 := en_bl.tupL
theorem p_holds (rising : Bool) {A B : Rcv} (GA : Good A) (GB : Good B) {ns : List Int} (h : Pt rising A B ns) : F_parting_holds [eRc A, eRc B, .tup (ns.map D.int), .bl rising] = some (.bl true) := by
  obtain ⟨bs, u, v, huv, ea, eb⟩ := h.df
  have few := h.few
  have pa := p_answers GA ns (by omega) 0
  have pb := p_answers GB ns (by omega) 0
  rw [ea] at pa
  rw [eb] at pb
  have en := p_are_numbers ns few
  have er := p_is_rising ns few
  have hq : gEq (.tup (ns.map D.int)) (.tup []) = some (.bl false) := by
    have := en_int.tupL.eq (by decide) ns []
    rw [decide_eq_false h.ne] at this
    exact this
  have d1 : gEq (.tup (bs.map D.bl)) (.tup (bs.map D.bl)) = some (.bl true) := by
    have := en_bt.eq (by decide) bs bs
    simpa using this
  have d2 : gNe (.tup (bs.map D.bl ++ [D.bl u])) (.tup (bs.map D.bl ++ [D.bl v])) = some (.bl true) := by
    have := en_bt.ne (by decide) (bs ++ [u]) (bs ++ [v])
    rw [decide_eq_false (by simpa using huv)] at this
    simpa using this
  simp at pa pb
  cases rising with
  | false => simp [F_parting_holds, S_parting_holds, startD, en, hq, pa, pb, d1, d2]
  | true =>
    rw [h.up rfl] at er
    simp [F_parting_holds, S_parting_holds, startD, en, hq, er, pa, pb, d1, d2]
end DL
end
section
set_option Elab.async false
set_option linter.all false
set_option maxRecDepth 100000
set_option autoImplicit false
/-! The plain law: the order of pairs. -/
namespace DL
open PySem PySem.Spec
open PyProof.Rows hiding St
open L2
def gc : Option Int → Nat
  | none => 0
  | some g => (g + 7).toNat
def rc (r : Rest) : Nat := r.1 * 15 + gc r.2
def cd (p : Pr) : Nat := rc p.1 * 100 + rc p.2
def RS4 (r : Rest) : Prop := r.1 < 4 ∧ ∀ g, r.2 = some g → -6 ≤ g ∧ g ≤ 6
def PS4 (p : Pr) : Prop := RS4 p.1 ∧ RS4 p.2
theorem RO.r4 {n : Nat} {r : Rest} (h : RO n r) (hn : n ≤ 4) : RS4 r := ⟨by have := h.1; omega, h.2⟩
theorem POk.p4 {A B : Rcv} (GA : Good A) (GB : Good B) {p : Pr} (h : POk A B p) : PS4 p := ⟨h.1.r4 GA.le, h.2.r4 GB.le⟩
theorem gc_le {r : Rest} (h : RS4 r) : gc r.2 ≤ 13 := by
  obtain ⟨s, g⟩ := r
  cases g with
  | none => exact Nat.zero_le _
  | some x =>
    have := h.2 x rfl
    show (x + 7).toNat ≤ 13
    omega
theorem rc_inj {a b : Rest} (ha : RS4 a) (hb : RS4 b) (e : rc a = rc b) : a = b := by
  have i1 := gc_le ha
  have i2 := gc_le hb
  unfold rc at e
  have e1 : a.1 = b.1 := by omega
  have e2 : gc a.2 = gc b.2 := by omega
  refine Prod.ext e1 ?_
  obtain ⟨s, g⟩ := a
  obtain ⟨t, h⟩ := b
  simp only at e2 ⊢
  cases g with
  | none =>
    cases h with
    | none => rfl
    | some y =>
      have := hb.2 y rfl
      have e3 : 0 = (y + 7).toNat := e2
      omega
  | some x =>
    have := ha.2 x rfl
    cases h with
    | none =>
      have e3 : (x + 7).toNat = 0 := e2
      omega
    | some y =>
      have := hb.2 y rfl
      have e3 : (x + 7).toNat = (y + 7).toNat := e2
      rw [show x = y by omega]
theorem rc_lt {a : Rest} (ha : RS4 a) : rc a < 60 := by
  have := ha.1
  have := gc_le ha
  unfold rc
  omega
theorem cd_inj {a b : Pr} (ha : PS4 a) (hb : PS4 b) (e : cd a = cd b) : a = b := by
  have := rc_lt ha.1
  have := rc_lt ha.2
  have := rc_lt hb.1
  have := rc_lt hb.2
  unfold cd at e
  exact Prod.ext (rc_inj ha.1 hb.1 (by omega)) (rc_inj ha.2 hb.2 (by omega))
theorem lx (a b : Int) (l m : List (Int ⊕ List Nat)) : PyProof.Rows.lexLt itemOrd (.inl a :: l) (.inl b :: m) = (decide (a < b) || (!decide (b < a) && PyProof.Rows.lexLt itemOrd l m)) := rfl
theorem lx0 (l m : List (Int ⊕ List Nat)) (a : Int) : PyProof.Rows.lexLt itemOrd (.inl a :: l) (.inl a :: m) = PyProof.Rows.lexLt itemOrd l m := by
  rw [lx]
  simp
theorem lxn : PyProof.Rows.lexLt itemOrd [] [] = false := rfl
def tk (r : Rest) : List (Int ⊕ List Nat) := .inl 1 :: .inl (r.1 : Int) :: (match r.2 with
  | none => [.inl 0]
  | some g => [.inl 1, .inl g, .inl 0])
theorem tk_eq (p : Pr) : PySem.W.keyToks (py (eP p)) = .inl 1 :: (tk p.1 ++ .inl 1 :: (tk p.2 ++ [.inl 0])) := by
  obtain ⟨⟨s, g⟩, ⟨t, h⟩⟩ := p
  cases g <;> cases h <;> rfl
theorem tk_lex {a b : Rest} (ha : RS4 a) (hb : RS4 b) (l m : List (Int ⊕ List Nat)) : PyProof.Rows.lexLt itemOrd (tk a ++ l) (tk b ++ m) = (decide (rc a < rc b) || (!decide (rc b < rc a) && PyProof.Rows.lexLt itemOrd l m)) := by
  obtain ⟨s, g⟩ := a
  obtain ⟨t, h⟩ := b
  have h1 := ha.1
  have h2 := hb.1
  simp only at h1 h2
  have i1 : gc g ≤ 13 := gc_le ha
  have i2 : gc h ≤ 13 := gc_le hb
  unfold tk rc
  simp only
  rcases Nat.lt_trichotomy s t with q | q | q
  · have e1 : decide ((s : Int) < (t : Int)) = true := decide_eq_true (by omega)
    have e2 : decide (s * 15 + gc g < t * 15 + gc h) = true := decide_eq_true (by omega)
    simp only [List.cons_append]
    rw [lx0, lx, e1, e2]
    rfl
  · subst q
    simp only [List.cons_append]
    rw [lx0, lx0]
    cases g with
    | none =>
      cases h with
      | none => simp only [List.cons_append, List.nil_append]; rw [lx0]; simp
      | some y =>
        have := hb.2 y rfl
        simp only [List.cons_append, List.nil_append]
        rw [lx]
        have e1 : decide ((0 : Int) < 1) = true := rfl
        have e2 : decide (s * 15 + gc none < s * 15 + gc (some y)) = true := decide_eq_true (by show s * 15 + 0 < s * 15 + (y + 7).toNat; omega)
        rw [e1, e2]
        rfl
    | some x =>
      have := ha.2 x rfl
      cases h with
      | none =>
        simp only [List.cons_append, List.nil_append]
        rw [lx]
        have e1 : decide ((1 : Int) < 0) = false := rfl
        have e1' : decide ((0 : Int) < 1) = true := rfl
        have e2 : decide (s * 15 + gc (some x) < s * 15 + gc none) = false := decide_eq_false (by show ¬ s * 15 + (x + 7).toNat < s * 15 + 0; omega)
        have e3 : decide (s * 15 + gc none < s * 15 + gc (some x)) = true := decide_eq_true (by show s * 15 + 0 < s * 15 + (x + 7).toNat; omega)
        rw [e1, e1', e2, e3]
        rfl
      | some y =>
        have := hb.2 y rfl
        simp only [List.cons_append, List.nil_append]
        rw [lx0, lx, lx0]
        have e2 : decide (s * 15 + gc (some x) < s * 15 + gc (some y)) = decide (x < y) := decide_eq_decide.mpr (by show s * 15 + (x + 7).toNat < s * 15 + (y + 7).toNat ↔ _; omega)
        have e3 : decide (s * 15 + gc (some y) < s * 15 + gc (some x)) = decide (y < x) := decide_eq_decide.mpr (by show s * 15 + (y + 7).toNat < s * 15 + (x + 7).toNat ↔ _; omega)
        rw [e2, e3]
  · have e1 : decide ((s : Int) < (t : Int)) = false := decide_eq_false (by omega)
    have e1' : decide ((t : Int) < (s : Int)) = true := decide_eq_true (by omega)
    have e2 : decide (t * 15 + gc h < s * 15 + gc g) = true := decide_eq_true (by omega)
    have e3 : decide (s * 15 + gc g < t * 15 + gc h) = false := decide_eq_false (by omega)
    simp only [List.cons_append]
    rw [lx0, lx, e1, e1', e2, e3]
    rfl
theorem dlt_P {a b : Pr} (ha : PS4 a) (hb : PS4 b) : PySem.W.dataLt (py (eP a)) (py (eP b)) = decide (cd a < cd b) := by
  unfold PySem.W.dataLt
  rw [tk_eq, tk_eq, lx0, tk_lex ha.1 hb.1, lx0, tk_lex ha.2 hb.2, lx0, lxn]
  have r1 := rc_lt ha.1
  have r2 := rc_lt ha.2
  have r3 := rc_lt hb.1
  have r4 := rc_lt hb.2
  unfold cd
  rw [Bool.and_false, Bool.or_false]
  rcases Nat.lt_trichotomy (rc a.1) (rc b.1) with q | q | q
  · rw [decide_eq_true q, decide_eq_true (show rc a.1 * 100 + rc a.2 < rc b.1 * 100 + rc b.2 by omega)]
    rfl
  · rw [decide_eq_false (show ¬ rc a.1 < rc b.1 by omega), decide_eq_false (show ¬ rc b.1 < rc a.1 by omega)]
    show (false || (true && decide (rc a.2 < rc b.2))) = _
    rw [Bool.false_or, Bool.true_and]
    exact decide_eq_decide.mpr (by omega)
  · rw [decide_eq_false (show ¬ rc a.1 < rc b.1 by omega), decide_eq_true q, decide_eq_false (show ¬ rc a.1 * 100 + rc a.2 < rc b.1 * 100 + rc b.2 by omega)]
    rfl
theorem alike_P (a b : Pr) : PySem.W.alike (py (eP a)) (py (eP b)) = true := by
  obtain ⟨⟨s, g⟩, ⟨t, h⟩⟩ := a
  obtain ⟨⟨s', g'⟩, ⟨t', h'⟩⟩ := b
  cases g <;> cases h <;> cases g' <;> cases h' <;> rfl
theorem lt_P {a b : Pr} (ha : PS4 a) (hb : PS4 b) : gLt (eP a) (eP b) = some (.bl (decide (cd a < cd b))) := by
  have h : gLt (eP a) (eP b) = if isPyL [eRest a.1, eRest a.2] && isPyL [eRest b.1, eRest b.2] && PySem.W.alike (py (eP a)) (py (eP b)) && decide ((py (eP a)).depth ≤ 64) then some (.bl (PySem.W.dataLt (py (eP a)) (py (eP b)))) else none := rfl
  have i1 : isPyL [eRest a.1, eRest a.2] = true := en_P.isp a
  have i2 : isPyL [eRest b.1, eRest b.2] = true := en_P.isp b
  have i3 : decide ((py (eP a)).depth ≤ 64) = true := decide_eq_true (by have := en_P.dep a; omega)
  rw [h, i1, i2, i3, alike_P, dlt_P ha hb]
  rfl
/-! ### merging -/
def mg : List Pr → List Pr → List Pr
  | [], ys => ys
  | x :: xs, [] => x :: xs
  | x :: xs, y :: ys => if cd y < cd x then y :: mg (x :: xs) ys else x :: mg xs (if x = y then ys else y :: ys)
termination_by xs ys => xs.length + ys.length
decreasing_by
  · simp
  · split <;> simp <;> omega
abbrev Srt (l : List Pr) : Prop := l.Pairwise fun a b => cd a < cd b
theorem mg_ok : ∀ (xs ys : List Pr), (∀ p ∈ xs, PS4 p) → (∀ p ∈ ys, PS4 p) → Srt xs → Srt ys → Srt (mg xs ys) ∧ ∀ z, z ∈ mg xs ys ↔ z ∈ xs ∨ z ∈ ys
  | [], ys, _, _, _, h => ⟨by rw [mg]; exact h, fun z => by rw [mg]; simp⟩
  | x :: xs, [], _, _, h, _ => ⟨by rw [mg]; exact h, fun z => by rw [mg]; simp⟩
  | x :: xs, y :: ys, o1, o2, h1, h2 => by
    rw [mg]
    have s1 := List.pairwise_cons.mp h1
    have s2 := List.pairwise_cons.mp h2
    by_cases q : cd y < cd x
    · rw [if_pos q]
      obtain ⟨i1, i2⟩ := mg_ok (x :: xs) ys o1 (fun p hp => o2 p (by simp [hp])) h1 s2.2
      refine ⟨List.pairwise_cons.mpr ⟨fun z hz => ?_, i1⟩, fun z => ?_⟩
      · rcases (i2 z).mp hz with w | w
        · rcases List.mem_cons.mp w with w | w
          · rw [w]; exact q
          · have := s1.1 z w; omega
        · exact s2.1 z w
      · rw [List.mem_cons, i2, List.mem_cons, List.mem_cons]
        constructor
        · rintro (w | (w | w) | w)
          · exact .inr (.inl w)
          · exact .inl (.inl w)
          · exact .inl (.inr w)
          · exact .inr (.inr w)
        · rintro ((w | w) | w | w)
          · exact .inr (.inl (.inl w))
          · exact .inr (.inl (.inr w))
          · exact .inl w
          · exact .inr (.inr w)
    · rw [if_neg q]
      by_cases e : x = y
      · rw [if_pos e]
        subst e
        obtain ⟨i1, i2⟩ := mg_ok xs ys (fun p hp => o1 p (by simp [hp])) (fun p hp => o2 p (by simp [hp])) s1.2 s2.2
        refine ⟨List.pairwise_cons.mpr ⟨fun z hz => ?_, i1⟩, fun z => ?_⟩
        · rcases (i2 z).mp hz with w | w
          · exact s1.1 z w
          · exact s2.1 z w
        · rw [List.mem_cons, i2, List.mem_cons, List.mem_cons]
          constructor
          · rintro (w | w | w)
            · exact .inl (.inl w)
            · exact .inl (.inr w)
            · exact .inr (.inr w)
          · rintro ((w | w) | w | w)
            · exact .inl w
            · exact .inr (.inl w)
            · exact .inl w
            · exact .inr (.inr w)
      · rw [if_neg e]
        have hxy : cd x < cd y := by
          have ne : cd x ≠ cd y := fun z => e (cd_inj (o1 x (by simp)) (o2 y (by simp)) z)
          omega
        obtain ⟨i1, i2⟩ := mg_ok xs (y :: ys) (fun p hp => o1 p (by simp [hp])) o2 s1.2 h2
        refine ⟨List.pairwise_cons.mpr ⟨fun z hz => ?_, i1⟩, fun z => ?_⟩
        · rcases (i2 z).mp hz with w | w
          · exact s1.1 z w
          · rcases List.mem_cons.mp w with w | w
            · rw [w]; exact hxy
            · have := s2.1 z w; omega
        · rw [List.mem_cons, i2, List.mem_cons (a := z) (b := x), or_assoc]
termination_by xs ys => xs.length + ys.length
end DL
end
section
set_option Elab.async false
set_option linter.all false
set_option maxRecDepth 100000
set_option autoImplicit false
/-! The plain law: merged, in_order. -/
namespace DL
open PySem PySem.Spec
open PyProof.Rows hiding St
open L2
def eLP (l : List Pr) : D := .lst (l.map eP)
def bodyMg : SD := sIf (dT (dOp gLt (dOp gIx (dV 1) (dV 4)) (dOp gIx (dV 0) (dV 3)))) (sSeq (sApp 2 (dOp gIx (dV 1) (dV 4)))
    (sAug 4 (dC (.int 1)))) (sSeq (sAug 4 (dCb gInt (aCons (dOp gEq (dOp gIx (dV 0) (dV 3)) (dOp gIx (dV 1) (dV 4))) aNil)))
    (sSeq (sApp 2 (dOp gIx (dV 0) (dV 3)))
    (sAug 3 (dC (.int 1)))))
theorem drop_at {α : Type} {l : List α} {i : Nat} {x : α} {r : List α} (h : l.drop i = x :: r) : l[i]? = some x ∧ l.drop (i + 1) = r ∧ i < l.length := by
  have hi : i < l.length := by
    rcases Nat.lt_or_ge i l.length with z | z
    · exact z
    · rw [List.drop_of_length_le z] at h; cases h
  rw [List.drop_eq_getElem_cons hi] at h
  cases h
  exact ⟨List.getElem?_eq_getElem hi, rfl, hi⟩
theorem p_merged (xs ys : List Pr) (o1 : ∀ p ∈ xs, PS4 p) (o2 : ∀ p ∈ ys, PS4 p) (hl : xs.length + ys.length ≤ 100000) : F_merged [eLP xs, eLP ys] = some (eLP (mg xs ys)) := by
  have w := sWh_nx (c := bAnd (dT (dOp gLt (dV 3) (dCb gLen (aCons (dV 0) aNil)))) (dT (dOp gLt (dV 4) (dCb gLen (aCons (dV 1) aNil))))) (b := bodyMg)
    (fun m ρ => ∃ (fd : List Pr) (i j : Nat), ρ = [some (eLP xs), some (eLP ys), some (eLP fd), some (.int (i : Nat)), some (.int (j : Nat))] ∧ i ≤ xs.length ∧ j ≤ ys.length ∧ mg xs ys = fd ++ mg (xs.drop i) (ys.drop j) ∧ m + i + j = xs.length + ys.length ∧ fd.length ≤ i + j)
    (fun ρ => ∃ (fd : List Pr) (i j : Nat), ρ = [some (eLP xs), some (eLP ys), some (eLP fd), some (.int (i : Nat)), some (.int (j : Nat))] ∧ mg xs ys = fd ++ (xs.drop i ++ ys.drop j) ∧ fd.length ≤ i + j ∧ i ≤ xs.length ∧ j ≤ ys.length) ?_ FU (xs.length + ys.length)
    [some (eLP xs), some (eLP ys), some (eLP []), some (.int 0), some (.int 0)] ⟨[], 0, 0, rfl, Nat.zero_le _, Nat.zero_le _, rfl, rfl, Nat.le_refl _⟩ (Nat.lt_of_le_of_lt hl (by decide))
  · obtain ⟨ρ', e, fd, i, j, rfl, h, hf, hi, hj⟩ := w
    have s1 : (fd.length + (xs.length - i) ≤ sizeLine) = True := eq_true (sz _ (by omega))
    have s2 : (fd.length + (xs.length - i) + (ys.length - j) ≤ sizeLine) = True := eq_true (sz _ (by omega))
    have e0 : eLP [] = .lst [] := rfl
    rw [e0] at e
    simp [F_merged, S_merged, startD]
    rw [← bodyMg, e]
    simp [eLP, s1, s2, h]
  · rintro m ρ ⟨fd, i, j, rfl, hi, hj, h, hm, hf⟩
    cases hx : xs.drop i with
    | nil =>
      have : xs.length ≤ i := by
        rcases Nat.lt_or_ge i xs.length with z | z
        · rw [List.drop_eq_getElem_cons z] at hx; cases hx
        · exact z
      refine .inl ⟨?_, fd, i, j, rfl, ?_, hf, hi, hj⟩
      · have z : (i < xs.length) = False := eq_false (by omega)
        simp [eLP, z]
      · rw [h, hx, mg]
        rfl
    | cons x r =>
      obtain ⟨x1, x2, x3⟩ := drop_at hx
      cases hy : ys.drop j with
      | nil =>
        have : ys.length ≤ j := by
          rcases Nat.lt_or_ge j ys.length with z | z
          · rw [List.drop_eq_getElem_cons z] at hy; cases hy
          · exact z
        refine .inl ⟨?_, fd, i, j, rfl, ?_, hf, hi, hj⟩
        · have z : (i < xs.length) = True := eq_true (by omega)
          have z' : (j < ys.length) = False := eq_false (by omega)
          simp [eLP, z, z']
        · rw [h, hx, hy, mg, List.append_nil]
      | cons y q =>
        obtain ⟨y1, y2, y3⟩ := drop_at hy
        have px : PS4 x := o1 x (List.mem_of_getElem? x1)
        have py_ : PS4 y := o2 y (List.mem_of_getElem? y1)
        have l1 := lt_P py_ px
        have l2 := en_P.eq (by decide) x y
        have ix : (xs.map eP)[i]? = some (eP x) := by rw [List.getElem?_map, x1]; rfl
        have iy : (ys.map eP)[j]? = some (eP y) := by rw [List.getElem?_map, y1]; rfl
        have szl : (fd.length < sizeLine) = True := eq_true (sz' _ (by omega))
        rw [hx, hy, mg] at h
        refine .inr ⟨?_, ?_⟩
        · have z : (i < xs.length) = True := eq_true (by omega)
          have z' : (j < ys.length) = True := eq_true (by omega)
          simp [eLP, z, z']
        · by_cases c : cd y < cd x
          · rw [if_pos c] at h
            refine ⟨m - 1, [some (eLP xs), some (eLP ys), some (eLP (fd ++ [y])), some (.int (i : Nat)), some (.int ((j + 1 : Nat) : Int))], by omega, ?_, fd ++ [y], i, j + 1, rfl, hi, by omega, ?_, by omega, by rw [List.length_append]; simp only [List.length_cons, List.length_nil]; omega⟩
            · simp [bodyMg, eLP, -List.getElem?_map, ix, iy, l1, c, szl]
            · rw [h, hx, y2, List.append_assoc]
              rfl
          · rw [if_neg c] at h
            by_cases d : x = y
            · rw [if_pos d] at h
              subst d
              refine ⟨m - 2, [some (eLP xs), some (eLP ys), some (eLP (fd ++ [x])), some (.int ((i + 1 : Nat) : Int)), some (.int ((j + 1 : Nat) : Int))], by omega, ?_, fd ++ [x], i + 1, j + 1, rfl, by omega, by omega, ?_, by omega, by rw [List.length_append]; simp only [List.length_cons, List.length_nil]; omega⟩
              · simp [bodyMg, eLP, -List.getElem?_map, ix, iy, l1, l2, szl]
              · rw [h, x2, y2, List.append_assoc]
                rfl
            · rw [if_neg d] at h
              refine ⟨m - 1, [some (eLP xs), some (eLP ys), some (eLP (fd ++ [x])), some (.int ((i + 1 : Nat) : Int)), some (.int (j : Nat))], by omega, ?_, fd ++ [x], i + 1, j, rfl, by omega, hj, ?_, by omega, by rw [List.length_append]; simp only [List.length_cons, List.length_nil]; omega⟩
              · simp [bodyMg, eLP, -List.getElem?_map, ix, iy, l1, c, l2, d, szl]
              · rw [h, x2, hy, List.append_assoc]
                rfl
theorem cutD_mid {α : Type} (xs : List α) (a b : Nat) (h : b ≤ xs.length) (hab : a ≤ b) : cutD xs (some (a : Int)) (some (b : Int)) = (xs.drop a).take (b - a) := by
  unfold cutD
  rw [HT.sIx_nat, HT.sIx_nat, Nat.min_eq_left h, Nat.min_eq_left (by omega)]
/-! ### in_order -/
structure Parts (rows : List Pr) (ps : List (List Pr)) : Prop where
  srt : ∀ p ∈ ps, Srt p
  sub : ∀ p ∈ ps, ∀ z ∈ p, z ∈ rows
  all : ∀ z ∈ rows, ∃ p ∈ ps, z ∈ p
  ne : 0 < ps.length
def sumL (ps : List (List Pr)) : Nat := (ps.map List.length).sum
theorem srt_len {rows l : List Pr} (s : Srt l) (sub : ∀ z ∈ l, z ∈ rows) : l.length ≤ rows.length := by
  refine nodup_len l rows ?_ sub
  exact List.Pairwise.imp (fun {a b} h e => by rw [e] at h; omega) s
def zipM (a b : List (List Pr)) : List (List Pr) := (a.zip b).map fun p => mg p.1 p.2
theorem parts_next {rows : List Pr} {ps : List (List Pr)} (h4 : ∀ p ∈ rows, PS4 p) (h : Parts rows ps) (k : Nat) (hk : 2 * k ≤ ps.length) (hpos : 0 < k) : Parts rows (zipM (ps.take k) ((ps.drop k).take k) ++ ps.drop (2 * k)) := by
  have m1 : ∀ p, p ∈ ps.take k → p ∈ ps := fun p => List.mem_of_mem_take
  have m2 : ∀ p, p ∈ (ps.drop k).take k → p ∈ ps := fun p hp => List.mem_of_mem_drop (List.mem_of_mem_take hp)
  have ok : ∀ p ∈ ps, ∀ z ∈ p, PS4 z := fun p hp z hz => h4 z (h.sub p hp z hz)
  have pr : ∀ x ∈ (ps.take k).zip ((ps.drop k).take k), x.1 ∈ ps ∧ x.2 ∈ ps := fun x hx => ⟨m1 _ (List.of_mem_zip hx).1, m2 _ (List.of_mem_zip hx).2⟩
  have mo : ∀ x ∈ (ps.take k).zip ((ps.drop k).take k), Srt (mg x.1 x.2) ∧ ∀ z, z ∈ mg x.1 x.2 ↔ z ∈ x.1 ∨ z ∈ x.2 := fun x hx =>
    mg_ok x.1 x.2 (ok _ (pr x hx).1) (ok _ (pr x hx).2) (h.srt _ (pr x hx).1) (h.srt _ (pr x hx).2)
  have lt : (ps.take k).length = k := by rw [List.length_take]; omega
  have ld : ((ps.drop k).take k).length = k := by rw [List.length_take, List.length_drop]; omega
  have lz : ((ps.take k).zip ((ps.drop k).take k)).length = k := by rw [List.length_zip, lt, ld]; omega
  refine ⟨fun p hp => ?_, fun p hp z hz => ?_, fun z hz => ?_, ?_⟩
  · rcases List.mem_append.mp hp with q | q
    · obtain ⟨x, hx, rfl⟩ := List.mem_map.mp q
      exact (mo x hx).1
    · exact h.srt p (List.mem_of_mem_drop q)
  · rcases List.mem_append.mp hp with q | q
    · obtain ⟨x, hx, rfl⟩ := List.mem_map.mp q
      rcases ((mo x hx).2 z).mp hz with w | w
      · exact h.sub _ (pr x hx).1 z w
      · exact h.sub _ (pr x hx).2 z w
    · exact h.sub p (List.mem_of_mem_drop q) z hz
  · obtain ⟨p, hp, hzp⟩ := h.all z hz
    obtain ⟨i, hi⟩ := List.getElem?_of_mem hp
    have hil := (List.getElem?_eq_some_iff.mp hi).1
    rcases Nat.lt_or_ge i k with q | q
    · have g1 : (ps.take k)[i]? = some p := by rw [List.getElem?_take, if_pos q]; exact hi
      have hx : ((ps.take k).zip ((ps.drop k).take k))[i]? = some ((ps.take k).zip ((ps.drop k).take k))[i] := List.getElem?_eq_getElem (by omega)
      have hx' := List.getElem?_zip_eq_some.mp hx
      rw [g1] at hx'
      have e1 := Option.some.inj hx'.1
      have hm := List.getElem_mem (l := (ps.take k).zip ((ps.drop k).take k)) (n := i) (by omega)
      refine ⟨_, List.mem_append_left _ (List.mem_map.mpr ⟨_, hm, rfl⟩), ((mo _ hm).2 z).mpr (.inl ?_)⟩
      rw [← e1]
      exact hzp
    · rcases Nat.lt_or_ge i (2 * k) with q2 | q2
      · have g1 : ((ps.drop k).take k)[i - k]? = some p := by
          rw [List.getElem?_take, if_pos (by omega), List.getElem?_drop, show k + (i - k) = i by omega]
          exact hi
        have hx : ((ps.take k).zip ((ps.drop k).take k))[i - k]? = some ((ps.take k).zip ((ps.drop k).take k))[i - k] := List.getElem?_eq_getElem (by omega)
        have hx' := List.getElem?_zip_eq_some.mp hx
        rw [g1] at hx'
        have e1 := Option.some.inj hx'.2
        have hm := List.getElem_mem (l := (ps.take k).zip ((ps.drop k).take k)) (n := i - k) (by omega)
        refine ⟨_, List.mem_append_left _ (List.mem_map.mpr ⟨_, hm, rfl⟩), ((mo _ hm).2 z).mpr (.inr ?_)⟩
        rw [← e1]
        exact hzp
      · refine ⟨p, List.mem_append_right _ (List.mem_of_getElem? (i := i - 2 * k) ?_), hzp⟩
        rw [List.getElem?_drop, show 2 * k + (i - 2 * k) = i by omega]
        exact hi
  · unfold zipM
    rw [List.length_append, List.length_map, lz]
    omega
def bodyIo : SD := (sSeq (sSet 2 (dOp gDiv (dCb gLen (aCons (dV 1) aNil)) (dC (.int 2))))
    (sSeq (sSet 3 (dSl (dV 1) (oS (dOp gMul (dC (.int 2)) (dV 2))) oN))
    (sSet 1 (dOp gAdd (dLc [] [5, 6] (lZ (aCons (dSl (dV 1) oN (oS (dV 2))) (aCons (dSl (dV 1) (oS (dV 2)) (oS (dOp gMul (dC (.int 2)) (dV 2)))) aNil))) (gT 2 (glC (gN 5) (glC (gN 6) glN))) bYes (dCal 2 F_merged (aCons (dV 5) (aCons (dV 6) aNil)))) (dV 3)))))
theorem p_in_order (rows : List Pr) (h4 : ∀ p ∈ rows, PS4 p) (hpos : 0 < rows.length) (hl : rows.length ≤ 3136) : ∃ l : List Pr, F_in_order [eLP rows] = some (.tup (l.map eP)) ∧ Srt l ∧ ∀ z, z ∈ l ↔ z ∈ rows := by
  have w := sWh_nx (c := dT (dOp gGt (dCb gLen (aCons (dV 1) aNil)) (dC (.int 1)))) (b := bodyIo)
    (fun m ρ => ∃ (ps : List (List Pr)) (x2 x3 : Option D), ρ = [some (eLP rows), some (.lst (ps.map eLP)), x2, x3, none, none, none] ∧ Parts rows ps ∧ ps.length ≤ 3136 ∧ m = ps.length)
    (fun ρ => ∃ (l : List Pr) (x2 x3 : Option D), ρ = [some (eLP rows), some (.lst [eLP l]), x2, x3, none, none, none] ∧ Srt l ∧ ∀ z, z ∈ l ↔ z ∈ rows) ?_ FU rows.length
    [some (eLP rows), some (.lst ((rows.map fun p => [p]).map eLP)), none, none, none, none, none] ?_ (Nat.lt_of_le_of_lt hl (by decide))
  · obtain ⟨ρ', e, l, x2, x3, rfl, h1, h2⟩ := w
    refine ⟨l, ?_, h1, h2⟩
    have c : lcL [4] (gN 4) bYes (dLst (aCons (dV 4) aNil)) (rows.map eP) [some (eLP rows), none, none, none, none, none, none] = some (rows.map fun p => eLP [p], [some (eLP rows), none, none, none, none, none, none]) :=
      lc_all eP (fun p => eLP [p]) rows fun p _ => ⟨[some (eLP rows), none, none, none, some (eP p), none, none], by simp, by simp [eLP], rfl⟩
    have szl : (rows.length < sizeLine) = True := eq_true (sz' _ (by omega))
    rw [List.map_map, show (eLP ∘ fun p => [p]) = fun p => eLP [p] from rfl] at e
    have el : (lL (dV 0)) [some (eLP rows), none, none, none, none, none, none] = some (rows.map eP, [some (eLP rows), none, none, none, none, none, none]) := by simp [eLP]
    simp only [F_in_order, S_in_order, startD, e_runP, e_sSeq, e_sSet, e_dLc, List.map_cons, List.map_nil, List.length_cons, List.length_nil, List.cons_append, List.nil_append]
    rw [show (List.replicate (7 - (0 + 1)) (none : Option D)) = [none, none, none, none, none, none] from rfl, el, Option.bind_some]
    simp only [List.length_map, szl, if_true, wipeD, List.set_cons_succ, List.set_cons_zero, c, Option.map_some, mixD_nil]
    simp
    rw [← bodyIo, e]
    simp [eLP]
  · rintro m ρ ⟨ps, x2, x3, rfl, hp, hle, rfl⟩
    have hne := hp.ne
    by_cases h : 1 < ps.length
    · refine .inr ⟨by simp; omega, ?_⟩
      have hk : 2 * (ps.length / 2) ≤ ps.length := by omega
      have hk0 : 0 < ps.length / 2 := by omega
      have nx := parts_next h4 hp (ps.length / 2) hk hk0
      have lt : (ps.take (ps.length / 2)).length = ps.length / 2 := by rw [List.length_take]; omega
      have ld : ((ps.drop (ps.length / 2)).take (ps.length / 2)).length = ps.length / 2 := by rw [List.length_take, List.length_drop]; omega
      have lz : (zipM (ps.take (ps.length / 2)) ((ps.drop (ps.length / 2)).take (ps.length / 2))).length = ps.length / 2 := by unfold zipM; rw [List.length_map, List.length_zip, lt, ld]; omega
      have ez : zipD ((ps.take (ps.length / 2)).map eLP) (((ps.drop (ps.length / 2)).take (ps.length / 2)).map eLP) = ((ps.take (ps.length / 2)).zip ((ps.drop (ps.length / 2)).take (ps.length / 2))).map fun x => D.tup [eLP x.1, eLP x.2] := by
        unfold zipD
        rw [List.zip_map, List.map_map]
        rfl
      have c : ∀ (A B C D' : Option D), lcL [5, 6] (gT 2 (glC (gN 5) (glC (gN 6) glN))) bYes (dCal 2 F_merged (aCons (dV 5) (aCons (dV 6) aNil))) (((ps.take (ps.length / 2)).zip ((ps.drop (ps.length / 2)).take (ps.length / 2))).map fun x => D.tup [eLP x.1, eLP x.2]) [A, B, C, D', none, none, none] =
          some (((ps.take (ps.length / 2)).zip ((ps.drop (ps.length / 2)).take (ps.length / 2))).map fun x => eLP (mg x.1 x.2), [A, B, C, D', none, none, none]) := fun A B C D' => by
        refine lc_all (fun x : List Pr × List Pr => D.tup [eLP x.1, eLP x.2]) (fun x => eLP (mg x.1 x.2)) _ fun x hx => ⟨[A, B, C, D', none, some (eLP x.1), some (eLP x.2)], by simp, ?_, rfl⟩
        have i1 := List.mem_of_mem_take (List.of_mem_zip hx).1
        have i2 := List.mem_of_mem_drop (List.mem_of_mem_take (List.of_mem_zip hx).2)
        have q1 := srt_len (hp.srt _ i1) (hp.sub _ i1)
        have q2 := srt_len (hp.srt _ i2) (hp.sub _ i2)
        simp [p_merged x.1 x.2 (fun p hp' => h4 p (hp.sub _ i1 p hp')) (fun p hp' => h4 p (hp.sub _ i2 p hp')) (by omega)]
      have em : (((ps.take (ps.length / 2)).zip ((ps.drop (ps.length / 2)).take (ps.length / 2))).map fun x => eLP (mg x.1 x.2)) = (zipM (ps.take (ps.length / 2)) ((ps.drop (ps.length / 2)).take (ps.length / 2))).map eLP := by
        unfold zipM
        rw [List.map_map]
        rfl
      refine ⟨_, [some (eLP rows), some (.lst ((zipM (ps.take (ps.length / 2)) ((ps.drop (ps.length / 2)).take (ps.length / 2)) ++ ps.drop (2 * (ps.length / 2))).map eLP)), some (.int ((ps.length / 2 : Nat) : Int)), some (.lst ((ps.drop (2 * (ps.length / 2))).map eLP)), none, none, none], ?_, ?_, _, _, _, rfl, nx, ?_, rfl⟩
      · rw [List.length_append, lz, List.length_drop]; omega
      · have d1 : ((ps.length : Int) / 2) = ((ps.length / 2 : Nat) : Int) := by omega
        have mo : ∀ x : Int, mulOk 2 x = true := fun x => by
          unfold mulOk
          rw [decide_eq_true (show -(2 ^ 64) < (2 : Int) ∧ (2 : Int) < 2 ^ 64 by decide)]
          rfl
        have d2 : (2 : Int) * ((ps.length / 2 : Nat) : Int) = ((2 * (ps.length / 2) : Nat) : Int) := by omega
        have c1 : cutD (ps.map eLP) (some ((2 * (ps.length / 2) : Nat) : Int)) none = (ps.drop (2 * (ps.length / 2))).map eLP := by rw [cutD_from, List.map_drop]
        have c2 : cutD (ps.map eLP) none (some ((ps.length / 2 : Nat) : Int)) = (ps.take (ps.length / 2)).map eLP := by rw [cutD_to, List.map_take]
        have c3 : cutD (ps.map eLP) (some ((ps.length / 2 : Nat) : Int)) (some ((2 * (ps.length / 2) : Nat) : Int)) = ((ps.drop (ps.length / 2)).take (ps.length / 2)).map eLP := by
          rw [cutD_mid _ _ _ (by rw [List.length_map]; exact hk) (by omega), show 2 * (ps.length / 2) - ps.length / 2 = ps.length / 2 by omega, List.map_take, List.map_drop]
        have zl : (((ps.take (ps.length / 2)).zip ((ps.drop (ps.length / 2)).take (ps.length / 2))).map fun x => D.tup [eLP x.1, eLP x.2]).length = ps.length / 2 := by rw [List.length_map, List.length_zip, lt, ld]; omega
        have s1 : (ps.length / 2 < sizeLine) = True := eq_true (sz' _ (by omega))
        have s2 : (((zipM (ps.take (ps.length / 2)) ((ps.drop (ps.length / 2)).take (ps.length / 2))).map eLP).length + ((ps.drop (2 * (ps.length / 2))).map eLP).length ≤ sizeLine) = True := eq_true (sz _ (by rw [List.length_map, lz, List.length_map, List.length_drop]; omega))
        rw [← d2] at c1 c3
        have d1' : gDiv (.int (ps.length : Nat)) (.int 2) = some (.int ((ps.length / 2 : Nat) : Int)) := by
          rw [o_gDiv, if_pos (by decide), d1]
        have mo' : gMul (.int 2) (.int ((ps.length / 2 : Nat) : Int)) = some (.int (2 * ((ps.length / 2 : Nat) : Int))) := by
          rw [o_gMul, mo, if_pos rfl]
        generalize ps.length / 2 = k at *
        have e1 : dSl (dV 1) (oS (dOp gMul (dC (.int 2)) (dV 2))) oN [some (eLP rows), some (.lst (ps.map eLP)), some (.int (k : Nat)), x3, none, none, none] = some (.lst ((ps.drop (2 * k)).map eLP), [some (eLP rows), some (.lst (ps.map eLP)), some (.int (k : Nat)), x3, none, none, none]) := by
          simp only [e_dSl, e_oS, e_oN, e_dOp, e_dC, e_dV, List.getElem?_cons_succ, List.getElem?_cons_zero, Option.bind_some, mo', Option.map_some, o_gSl_l, c1]
        have e2 : ∀ X : Option D, (lZ (aCons (dSl (dV 1) oN (oS (dV 2))) (aCons (dSl (dV 1) (oS (dV 2)) (oS (dOp gMul (dC (.int 2)) (dV 2)))) aNil))) [some (eLP rows), some (.lst (ps.map eLP)), some (.int (k : Nat)), X, none, none, none] =
            some (((ps.take k).zip ((ps.drop k).take k)).map fun x => D.tup [eLP x.1, eLP x.2], [some (eLP rows), some (.lst (ps.map eLP)), some (.int (k : Nat)), X, none, none, none]) := fun X => by
          simp only [e_lZ, e_aCons, e_aNil, e_dSl, e_oS, e_oN, e_dOp, e_dC, e_dV, List.getElem?_cons_succ, List.getElem?_cons_zero, Option.bind_some, mo', Option.map_some, o_gSl_l, c2, c3, ez]
        have e3 : ∀ X : Option D, dLc [] [5, 6] (lZ (aCons (dSl (dV 1) oN (oS (dV 2))) (aCons (dSl (dV 1) (oS (dV 2)) (oS (dOp gMul (dC (.int 2)) (dV 2)))) aNil))) (gT 2 (glC (gN 5) (glC (gN 6) glN))) bYes (dCal 2 F_merged (aCons (dV 5) (aCons (dV 6) aNil))) [some (eLP rows), some (.lst (ps.map eLP)), some (.int (k : Nat)), X, none, none, none] =
            some (.lst ((zipM (ps.take k) ((ps.drop k).take k)).map eLP), [some (eLP rows), some (.lst (ps.map eLP)), some (.int (k : Nat)), X, none, none, none]) := fun X => by
          rw [e_dLc, e2, Option.bind_some]
          simp only [zl, s1, if_true, wipeD, List.set_cons_succ, List.set_cons_zero, c, em, Option.map_some, mixD_nil]
        have e4 : dOp gDiv (dCb gLen (aCons (dV 1) aNil)) (dC (.int 2)) [some (eLP rows), some (.lst (ps.map eLP)), x2, x3, none, none, none] = some (.int (k : Nat), [some (eLP rows), some (.lst (ps.map eLP)), x2, x3, none, none, none]) := by
          simp only [e_dOp, e_dCb, e_aCons, e_aNil, e_dV, e_dC, List.getElem?_cons_succ, List.getElem?_cons_zero, Option.bind_some, Option.map_some, o_gLen_l, List.length_map, d1']
        have e5 : gAdd (.lst ((zipM (ps.take k) ((ps.drop k).take k)).map eLP)) (.lst ((ps.drop (2 * k)).map eLP)) = some (.lst ((zipM (ps.take k) ((ps.drop k).take k) ++ ps.drop (2 * k)).map eLP)) := by
          rw [o_gAdd_l, if_pos (of_eq_true s2), List.map_append]
        simp only [bodyIo, e_sSeq, e_sSet, e4, Option.bind_some, e_gN, List.length_cons, List.length_nil, List.set_cons_succ, List.set_cons_zero]
        simp only [show (2 < 0 + 1 + 1 + 1 + 1 + 1 + 1 + 1) = True from eq_true (by decide), if_true, Option.map_some, e1, Option.bind_some, show (3 < 0 + 1 + 1 + 1 + 1 + 1 + 1 + 1) = True from eq_true (by decide), List.length_cons, List.length_nil, List.set_cons_succ, List.set_cons_zero]
        rw [e_dOp, e3]
        simp only [e_dV, List.getElem?_cons_succ, List.getElem?_cons_zero, Option.bind_some, e5, Option.map_some, e_gN, List.length_cons, List.length_nil, List.set_cons_succ, List.set_cons_zero]
        rfl
      · rw [List.length_append, lz, List.length_drop]; omega
    · have h1 : ps.length = 1 := by omega
      match ps, h1 with
      | [l], _ =>
        refine .inl ⟨by simp, l, x2, x3, rfl, hp.srt l (by simp), fun z => ⟨hp.sub l (by simp) z, fun hz => ?_⟩⟩
        obtain ⟨p, hp', hzp⟩ := hp.all z hz
        simp at hp'
        rw [← hp']
        exact hzp
  · refine ⟨rows.map fun p => [p], none, none, rfl, ⟨fun p hp => ?_, fun p hp z hz => ?_, fun z hz => ⟨[z], List.mem_map.mpr ⟨z, hz, rfl⟩, by simp⟩, by simpa using hpos⟩, by simpa using hl, by simp⟩
    · obtain ⟨x, _, rfl⟩ := List.mem_map.mp hp
      simp
    · obtain ⟨x, hx, rfl⟩ := List.mem_map.mp hp
      simp at hz
      subst hz
      exact hx
end DL
end
section
set_option Elab.async false
set_option linter.all false
set_option maxRecDepth 100000
set_option autoImplicit false
/-! The plain law: pairing_of, pairing_holds, two_right. -/
namespace DL
open PySem PySem.Spec
open PyProof.Rows hiding St
open L2
abbrev b00 : Pr := ((0, none), (0, none))
section
variable {A B : Rcv}
theorem rc_P {n : Nat} {c : Cf} (h : RC false A B n c) : Rch (sucP A B) b00 n (c.1, c.2.1) := by
  induction h with
  | zero => exact .zero
  | succ h s ih =>
    obtain ⟨t, ht, e, rfl⟩ := s
    exact .succ ih ⟨t, ht, e, rfl⟩
theorem P_rc {n : Nat} {p : Pr} (h : Rch (sucP A B) b00 n p) : RC false A B n (p.1, p.2, 0) := by
  induction h with
  | zero => exact .zero
  | succ h s ih =>
    obtain ⟨t, ht, e, rfl⟩ := s
    exact .succ ih ⟨t, ht, e, rfl⟩
theorem un_P : UN false A B ↔ ∃ n p, Rch (sucP A B) b00 n p ∧ badP A B p := by
  constructor
  · rintro ⟨n, c, h, s, hs, hn⟩
    exact ⟨n, _, rc_P h, s, hs, hn⟩
  · rintro ⟨n, p, h, s, hs, hn⟩
    exact ⟨n, _, P_rc h, s, hs, hn⟩
theorem Met.none {l : List Pr} (h : Met A B b00 l) : ¬ UN false A B := by
  rw [un_P]
  rintro ⟨n, p, hr, hb⟩
  have : p ∈ l := by
    clear hb
    induction hr with
    | zero => exact h.ini
    | succ hr s ih => exact (h.cl _ ih).2 _ s
  exact (h.cl p this).1 hb
theorem p_pairing_of (GA : Good A) (GB : Good B) : (UN false A B ∧ F_pairing_of [eRc A, eRc B] = some .non) ∨
    (¬ UN false A B ∧ ∃ l : List Pr, F_pairing_of [eRc A, eRc B] = some (.tup (l.map eP)) ∧ Srt l ∧ Met A B b00 l) := by
  have h0 : POk A B b00 := ⟨⟨GA.pos, fun g e => nomatch e⟩, ⟨GB.pos, fun g e => nomatch e⟩⟩
  have e0 : eP b00 = .tup [.tup [.int 0], .tup [.int 0]] := rfl
  rcases p_pairs_met GA GB h0 with ⟨e, n, p, h1, h2⟩ | ⟨found, e, hM⟩
  · refine .inl ⟨un_P.mpr ⟨n, p, h1, h2⟩, ?_⟩
    rw [e0] at e
    simp [F_pairing_of, S_pairing_of, startD, e]
  · have h4 : ∀ p ∈ found, PS4 p := fun p hp => (hM.ok p hp).p4 GA GB
    obtain ⟨l, el, h1, h2⟩ := p_in_order found h4 (List.length_pos_of_mem hM.ini) (pairs_len GA GB hM.nd hM.ok)
    refine .inr ⟨hM.none, l, ?_, h1, ⟨?_, fun p hp => hM.ok p ((h2 p).mp hp), (h2 _).mpr hM.ini, fun p hp => ⟨(hM.cl p ((h2 p).mp hp)).1, fun p' s => (h2 p').mpr ((hM.cl p ((h2 p).mp hp)).2 p' s)⟩⟩⟩
    · rw [e0] at e
      unfold eLP at el
      simp [F_pairing_of, S_pairing_of, startD, e, el]
    · exact List.Pairwise.imp (fun {a b} h e => by rw [e] at h; omega) h1
theorem p_is_rest {R : Rcv} {r : Rest} (h : RO R.length r) : F_is_rest [eRc R, eRest r] = some (.bl true) := by
  obtain ⟨s, g⟩ := r
  have hs : s < R.length := h.1
  have kt := kit_tt
  have l27 : (1 < sizeLine) = True := eq_true (sz' _ (by omega))
  have l28 : (2 < sizeLine) = True := eq_true (sz' _ (by omega))
  have l0 : (0 < sizeLine) = True := eq_true (sz' _ (by omega))
  cases g with
  | none =>
    simp [F_is_rest, S_is_rest, startD, eRest, tyName, kt, l27, l0, wipeD, lcL, p_is_integer, bools, eRc, hs]
  | some g =>
    have hg := h.2 g rfl
    have ha : (if g < 0 then -g else g) ≤ 6 := by split <;> omega
    simp [F_is_rest, S_is_rest, startD, eRest, tyName, kt, l27, l28, wipeD, lcL, p_is_integer, bools, eRc, hs, ha]
theorem p_is_pair {p : Pr} (h : POk A B p) : F_is_pair [eRc A, eRc B, eP p] = some (.bl true) := by
  have e1 := p_is_rest h.1
  have e2 := p_is_rest h.2
  simp [F_is_pair, S_is_pair, startD, eP, tyName, kit_tt, e1, e2]
theorem bools_true {α : Type} (l : List α) : bools (l.map fun _ => D.bl true) = some (l.map fun _ => true) := bools_map (fun _ : α => true) l
theorem all_true {α : Type} (l : List α) : (l.all fun _ => true) = true := by
  rw [List.all_eq_true]
  exact fun _ _ => rfl
def bodyPh : SD := (sSeq (sSet 5 (dCal 3 F_pairs_behind (aCons (dV 0) (aCons (dV 1) (aCons (dV 3) aNil)))))
    (sIf (bOr (dT (dOp gIs (dV 5) (dC .non))) (bNot (dT (dCb gAll (aCons (dLc [] [8] (lL (dV 5)) (gN 8) bYes (dOp (gInD false) (dV 8) (dV 4))) aNil))))) (sRet (dC (.bl false))) sNil))
theorem p_pairing_holds (GA : Good A) (GB : Good B) {l : List Pr} (hs : Srt l) (hM : Met A B b00 l) : F_pairing_holds [eRc A, eRc B, .tup (l.map eP)] = some (.bl true) := by
  have hlen := pairs_len GA GB hM.nd hM.ok
  have s1 : (l.length < sizeLine) = True := eq_true (sz' _ (by omega))
  -- is_pair
  have c1 : lcL [3] (gN 3) bYes (dCal 3 F_is_pair (aCons (dV 0) (aCons (dV 1) (aCons (dV 3) aNil)))) (l.map eP) [some (eRc A), some (eRc B), some (.tup (l.map eP)), none, none, none, none, none, none] = some (l.map fun _ => D.bl true, [some (eRc A), some (eRc B), some (.tup (l.map eP)), none, none, none, none, none, none]) :=
    lc_all eP (fun _ => D.bl true) l fun p hp => ⟨[some (eRc A), some (eRc B), some (.tup (l.map eP)), some (eP p), none, none, none, none, none], by simp, by simp [p_is_pair (hM.ok p hp)], rfl⟩
  -- ascending
  have c2 : ∃ bs : List Bool, lcL [6, 7] (gT 2 (glC (gN 6) (glC (gN 7) glN))) bYes (dOp gLt (dV 6) (dV 7)) (zipD (l.map eP) ((l.map eP).drop 1)) [some (eRc A), some (eRc B), some (.tup (l.map eP)), none, none, none, none, none, none] = some (bs.map fun _ => D.bl true, [some (eRc A), some (eRc B), some (.tup (l.map eP)), none, none, none, none, none, none]) := by
    have h4 : ∀ p ∈ l, PS4 p := fun p hp => (hM.ok p hp).p4 GA GB
    generalize hX : some (D.tup (l.map eP)) = X
    clear hX c1 s1 hlen hM
    induction l with
    | nil => exact ⟨[], rfl⟩
    | cons p r ih =>
      cases r with
      | nil => exact ⟨[], rfl⟩
      | cons q r =>
        have hp := List.pairwise_cons.mp hs
        obtain ⟨bs, e⟩ := ih hp.2 fun x hx => h4 x (by simp [hx])
        refine ⟨true :: bs, ?_⟩
        have lt := lt_P (h4 p (by simp)) (h4 q (by simp))
        have hlt := hp.1 q (by simp)
        have ez : zipD ((p :: q :: r).map eP) (((p :: q :: r).map eP).drop 1) = D.tup [eP p, eP q] :: zipD ((q :: r).map eP) (((q :: r).map eP).drop 1) := rfl
        rw [ez, lcL]
        simp [lt, hlt, wipeD]
        simp at e
        rw [e]
  obtain ⟨bs, c2⟩ := c2
  have zl : (zipD (l.map eP) ((l.map eP).drop 1)).length = l.length - 1 := by
    unfold zipD
    rw [List.length_map, List.length_zip, List.length_drop, List.length_map]
    omega
  have s2 : (l.length - 1 < sizeLine) = True := eq_true (sz' _ (by omega))
  -- known
  obtain ⟨us, c3, hk⟩ := dc_new ke_P eP id (fun _ => D.bl true) (vs := [3]) (g := gN 3) (fk := dV 3) (fv := dC (.bl true))
    (ρ0 := [some (eRc A), some (eRc B), some (.tup (l.map eP)), none, none, none, none, none, none]) l
    fun x hx => ⟨[some (eRc A), some (eRc B), some (.tup (l.map eP)), some (eP x), none, none, none, none, none], by simp, by simp, by simp, rfl⟩
  rw [List.map_id] at c3
  have e0 : D.tup [.tup [.int 0], .tup [.int 0]] = eP b00 := rfl
  have k0 : gInD true (eP b00) (.dic (us.map eP) (us.map fun _ => D.bl true)) = some (.bl false) := by
    have hm : b00 ∈ us := (hk.iffP b00).mpr hM.ini
    rw [gInD_map ke_P]
    simp [hm]
  -- the loop
  have f := sFor_nx eP (g := gN 3) (b := bodyPh)
    (fun r ρ => ∃ (pre : List Pr) (x3 x5 : Option D), l = pre ++ r ∧ ρ = [some (eRc A), some (eRc B), some (.tup (l.map eP)), x3, some (.dic (us.map eP) (us.map fun _ => D.bl true)), x5, none, none, none]) ?_ l
    [some (eRc A), some (eRc B), some (.tup (l.map eP)), none, some (.dic (us.map eP) (us.map fun _ => D.bl true)), none, none, none, none] ⟨[], none, none, rfl, rfl⟩
  · obtain ⟨ρ', e, pre, x3, x5, _, rfl⟩ := f
    simp [F_pairing_holds, S_pairing_holds, startD, tyName, kit_tt, s1, wipeD]
    rw [c1]
    simp [bools_true, all_true]
    simp at zl c2
    rw [zl]
    simp [s2]
    rw [c2]
    simp [bools_true, all_true]
    rw [c3]
    simp [s1]
    rw [e0, k0]
    simp
    rw [← bodyPh, e]
  · rintro p r ρ ⟨pre, x3, x5, hp, rfl⟩
    have hpl : p ∈ l := by rw [hp]; simp
    have hc := hM.cl p hpl
    refine ⟨[some (eRc A), some (eRc B), some (.tup (l.map eP)), some (eP p), some (.dic (us.map eP) (us.map fun _ => D.bl true)), x5, none, none, none], ?_⟩
    rcases p_pairs_behind A B (hM.ok p hpl) with ⟨hb, _⟩ | ⟨_, k, ek, hk27, hsu⟩
    · exact absurd hb hc.1
    · have c4 : lcL [8] (gN 8) bYes (dOp (gInD false) (dV 8) (dV 4)) (k.map eP) [some (eRc A), some (eRc B), some (.tup (l.map eP)), some (eP p), some (.dic (us.map eP) (us.map fun _ => D.bl true)), some (.lst (k.map eP)), none, none, none] = some (k.map fun _ => D.bl true, [some (eRc A), some (eRc B), some (.tup (l.map eP)), some (eP p), some (.dic (us.map eP) (us.map fun _ => D.bl true)), some (.lst (k.map eP)), none, none, none]) := by
        refine lc_all eP (fun _ => D.bl true) k fun x hx => ⟨[some (eRc A), some (eRc B), some (.tup (l.map eP)), some (eP p), some (.dic (us.map eP) (us.map fun _ => D.bl true)), some (.lst (k.map eP)), none, none, some (eP x)], by simp, ?_, rfl⟩
        have hx' : x ∈ us := (hk.iffP x).mpr (hc.2 x ((hsu x).mp hx))
        simp [gInD_map ke_P, hx']
      have s4 : (k.length < sizeLine) = True := eq_true (sz' _ (by omega))
      refine ⟨[some (eRc A), some (eRc B), some (.tup (l.map eP)), some (eP p), some (.dic (us.map eP) (us.map fun _ => D.bl true)), some (.lst (k.map eP)), none, none, none], by simp, ?_, pre ++ [p], _, _, by simp [hp], rfl⟩
      simp [bodyPh, ek, s4, wipeD]
      rw [c4]
      simp [bools_true, all_true]
open Classical in
theorem p_two_right (GA : Good A) (GB : Good B) : F_law_two_right [eRc A, eRc B] = some (.bl true) := by
  have al := p_alike false GA GB
  have al' := p_alike true GA GB
  have b1 := p_below false GA GB
  have b2 := p_below false GB GA
  have b3 := p_below true GA GB
  have b4 := p_below true GB GA
  have pt : ∃ d, F_parting [eRc A, eRc B, .bl false] = some d ∧ isNon d = decide (¬ UN false A B) := by
    rcases p_parting false GA GB with ⟨h, e⟩ | ⟨h, ns, _, e⟩
    · exact ⟨_, e, by simp [h]⟩
    · exact ⟨_, e, by simp [h]⟩
  obtain ⟨pd, ept, hpt⟩ := pt
  have both := both_iff (rising := false) (A := A) (B := B)
  have both' := both_iff (rising := true) (A := A) (B := B)
  by_cases hu : UN false A B
  · -- unlike
    have pr : F_pairing_of [eRc A, eRc B] = some .non := by
      rcases p_pairing_of GA GB with ⟨_, e⟩ | ⟨h, _⟩
      · exact e
      · exact absurd hu h
    rw [decide_eq_false (by simpa using hu)] at al hpt
    by_cases o1 : OV false A B
    · rw [decide_eq_false (by simpa using o1)] at b1
      by_cases p1 : OV true A B
      · have u1 : UN true A B := p1.un
        rw [decide_eq_false (by simpa using p1)] at b3
        rw [decide_eq_false (by simpa using u1)] at al'
        simp [F_law_two_right, S_law_two_right, startD, al, al', b1, b3, ept, hpt, pr]
      · rw [decide_eq_true p1] at b3
        by_cases p2 : OV true B A
        · have u1 : UN true A B := p2.un.swap
          rw [decide_eq_false (by simpa using p2)] at b4
          rw [decide_eq_false (by simpa using u1)] at al'
          simp [F_law_two_right, S_law_two_right, startD, al, al', b1, b3, b4, ept, hpt, pr]
        · have u1 : ¬ UN true A B := both'.mp ⟨p1, p2⟩
          rw [decide_eq_true p2] at b4
          rw [decide_eq_true u1] at al'
          simp [F_law_two_right, S_law_two_right, startD, al, al', b1, b3, b4, ept, hpt, pr]
    · have o2 : OV false B A := by
        by_cases z : OV false B A
        · exact z
        · exact absurd hu (both.mp ⟨o1, z⟩)
      have p1 : ¬ OV true A B := fun z => o1 z.free
      rw [decide_eq_true o1] at b1
      rw [decide_eq_false (by simpa using o2)] at b2
      rw [decide_eq_true p1] at b3
      by_cases p2 : OV true B A
      · have u1 : UN true A B := p2.un.swap
        rw [decide_eq_false (by simpa using p2)] at b4
        rw [decide_eq_false (by simpa using u1)] at al'
        simp [F_law_two_right, S_law_two_right, startD, al, al', b1, b2, b3, b4, ept, hpt, pr]
      · have u1 : ¬ UN true A B := both'.mp ⟨p1, p2⟩
        rw [decide_eq_true p2] at b4
        rw [decide_eq_true u1] at al'
        simp [F_law_two_right, S_law_two_right, startD, al, al', b1, b2, b3, b4, ept, hpt, pr]
  · have o := both.mpr hu
    have u' : ¬ UN true A B := fun z => hu z.free
    have o' := both'.mpr u'
    obtain ⟨l, pr, hs, hM⟩ : ∃ l : List Pr, F_pairing_of [eRc A, eRc B] = some (.tup (l.map eP)) ∧ Srt l ∧ Met A B b00 l := by
      rcases p_pairing_of GA GB with ⟨h, _⟩ | ⟨_, h⟩
      · exact absurd h hu
      · exact h
    have ph := p_pairing_holds GA GB hs hM
    rw [decide_eq_true hu] at al hpt
    rw [decide_eq_true u'] at al'
    rw [decide_eq_true o.1] at b1
    rw [decide_eq_true o.2] at b2
    rw [decide_eq_true o'.1] at b3
    rw [decide_eq_true o'.2] at b4
    simp [F_law_two_right, S_law_two_right, startD, al, al', b1, b2, b3, b4, ept, hpt, pr, ph]
end
end DL
end
section
set_option Elab.async false
set_option linter.all false
set_option maxRecDepth 100000
set_option autoImplicit false
/-! The plain law: drawing. -/
namespace DL
open PySem PySem.Spec
open PyProof.Rows hiding St
open L2
@[simp] theorem e_runS (n : Nat) (f : SD) (l ds : List D) : runS n f l ds = match f (startD n (.lst l :: ds)) with
  | some (.rt d ρ) => match (ρ : List (Option D))[0]? with
    | some (some (D.lst l')) => some (d, l')
    | _ => none
  | _ => none := rfl
def SPr (l : List D) : Prop := ∃ g m c : Int, l = [.int g, .int m, .int c] ∧ 0 ≤ m ∧ m < 2305843009213693951
theorem ix3_0 : ixN 3 0 = some 0 := rfl
theorem ix3_1 : ixN 3 1 = some 1 := rfl
theorem ix3_2 : ixN 3 2 = some 2 := rfl
theorem mo1 (c : Int) : mulOk 3202034522624059733 c = true := by
  unfold mulOk
  rw [decide_eq_true (show -(2 ^ 64) < (3202034522624059733 : Int) ∧ (3202034522624059733 : Int) < 2 ^ 64 by decide)]
  rfl
theorem mo2 (c : Int) : mulOk c 2862933555777941757 = true := by
  unfold mulOk
  rw [decide_eq_true (show -(2 ^ 64) < (2862933555777941757 : Int) ∧ (2862933555777941757 : Int) < 2 ^ 64 by decide), Bool.or_true]
theorem mo3 {m : Int} (h0 : 0 ≤ m) (h1 : m < 2305843009213693951) (c : Int) : mulOk m c = true := by
  unfold mulOk
  have e : (2 : Int) ^ 64 = 18446744073709551616 := by decide
  rw [decide_eq_true (show -(2 ^ 64) < m ∧ m < 2 ^ 64 by rw [e]; omega)]
  rfl
theorem p_dip {l : List D} (h : SPr l) {n : Int} (h0 : 0 < n) (h1 : n < 1073741824) : ∃ (v : Nat) (l' : List D), F_law_dip l [.int n] = some (.int (v : Nat), l') ∧ (v : Int) < n ∧ SPr l' := by
  obtain ⟨g, m, c, rfl, hm0, hm1⟩ := h
  by_cases hg : 0 < g
  · have v0 := Int.emod_nonneg g (show n ≠ 0 by omega)
    have v1 := Int.emod_lt_of_pos g h0
    refine ⟨(g % n).toNat, [.int (g / n), .int m, .int c], ?_, by omega, g / n, m, c, rfl, hm0, hm1⟩
    rw [Int.toNat_of_nonneg v0]
    simp [F_law_dip, S_law_dip, startD, hg, h0, h1, ix3_0]
  · obtain ⟨m', hm'⟩ : ∃ m' : Int, m' = (m * 2862933555777941757 + (3202034522624059733 * (c + 1) + 29)) % 2305843009213693951 := ⟨_, rfl⟩
    have a0 : 0 ≤ m' := by rw [hm']; exact Int.emod_nonneg _ (by decide)
    have a1 : m' < 2305843009213693951 := by rw [hm']; exact Int.emod_lt_of_pos _ (by decide)
    have v0 := Int.emod_nonneg ((m' * m') % 2305843009213693951 / 131071) (show n ≠ 0 by omega)
    have v1 := Int.emod_lt_of_pos ((m' * m') % 2305843009213693951 / 131071) h0
    refine ⟨(((m' * m') % 2305843009213693951 / 131071) % n).toNat, [.int g, .int m', .int (c + 1)], ?_, by omega, g, m', c + 1, rfl, a0, a1⟩
    rw [Int.toNat_of_nonneg v0]
    simp [F_law_dip, S_law_dip, startD, hg, h0, ix3_2, ix3_1, mo1, mo2, ← hm', mo3 a0 a1]
theorem p_pick {l : List D} (h : SPr l) (xs : List D) (h0 : 0 < xs.length) (h1 : xs.length ≤ 1000) : ∃ (x : D) (l' : List D), x ∈ xs ∧ F_law_pick l [.lst xs] = some (x, l') ∧ SPr l' := by
  obtain ⟨v, l', e, hv, hs⟩ := p_dip h (n := (xs.length : Int)) (by omega) (by omega)
  have hv' : v < xs.length := by omega
  refine ⟨xs[v], l', List.getElem_mem hv', ?_, hs⟩
  simp [F_law_pick, S_law_pick, startD, e]
  rw [List.getElem?_eq_getElem hv']
  simp
theorem rng_nn : rngOk (none, none) := ⟨fun x e => (nomatch e), fun x e => (nomatch e)⟩
theorem rng_ns {b : Int} (h1 : -6 ≤ b) (h2 : b ≤ 6) : rngOk (none, some b) := ⟨fun x e => (nomatch e), fun x e => by have e' : some b = some x := e; cases e'; exact ⟨h1, h2⟩⟩
theorem rng_sn {a : Int} (h1 : -6 ≤ a) (h2 : a ≤ 6) : rngOk (some a, none) := ⟨fun x e => by have e' : some a = some x := e; cases e'; exact ⟨h1, h2⟩, fun x e => (nomatch e)⟩
theorem rng_ss {a b : Int} (h1 : -6 ≤ a) (h2 : a ≤ 6) (h3 : -6 ≤ b) (h4 : b ≤ 6) : rngOk (some a, some b) :=
  ⟨fun x e => by have e' : some a = some x := e; cases e'; exact ⟨h1, h2⟩, fun x e => by have e' : some b = some x := e; cases e'; exact ⟨h3, h4⟩⟩
theorem p_range {l : List D} (h : SPr l) : ∃ (r : Rng) (l' : List D), rngOk r ∧ F_law_range l [] = some (eR r, l') ∧ SPr l' := by
  obtain ⟨w, l1, e1, hw, s1⟩ := p_dip h (n := 9) (by decide) (by decide)
  by_cases h6 : w < 6
  · obtain ⟨v, l2, e2, hv, s2⟩ := p_dip s1 (n := 13) (by decide) (by decide)
    by_cases h3 : w < 3
    · rcases (show w = 0 ∨ w = 1 ∨ w = 2 by omega) with rfl | rfl | rfl
      · exact ⟨(none, some ((v : Int) - 6)), l2, rng_ns (by omega) (by omega), by simp at e1; simp [F_law_range, S_law_range, startD, e1, e2, eR, eO], s2⟩
      · exact ⟨(some ((v : Int) - 6), none), l2, rng_sn (by omega) (by omega), by simp at e1; simp [F_law_range, S_law_range, startD, e1, e2, eR, eO], s2⟩
      · exact ⟨(none, none), l2, rng_nn, by simp at e1; simp [F_law_range, S_law_range, startD, e1, e2, eR, eO], s2⟩
    · obtain ⟨u, l3, e3, hu, s3⟩ := p_dip s2 (n := 7 - ((v : Int) - 6)) (by omega) (by omega)
      have i6 : ((w : Int) < 6) = True := eq_true (by omega)
      have i3 : ((w : Int) < 3) = False := eq_false (by omega)
      exact ⟨(some ((v : Int) - 6), some ((v : Int) - 6 + u)), l3, rng_ss (by omega) (by omega) (by omega) (by omega), by simp [F_law_range, S_law_range, startD, e1, e2, e3, i6, i3, eR, eO], s3⟩
  · obtain ⟨v, l2, e2, hv, s2⟩ := p_dip s1 (n := 6) (by decide) (by decide)
    obtain ⟨u, l3, e3, hu, s3⟩ := p_dip s2 (n := 7 - (1 + (v : Int))) (by omega) (by omega)
    have i6 : ((w : Int) < 6) = False := eq_false (by omega)
    have i3 : ((w : Int) < 3) = False := eq_false (by omega)
    exact ⟨(some (1 + (v : Int)), some (1 + (v : Int) + u)), l3, rng_ss (by omega) (by omega) (by omega) (by omega), by simp [F_law_range, S_law_range, startD, e1, e2, e3, i6, i3, eR, eO], s3⟩
theorem seq_nx {f g : SD} {ρ ρ1 : DE} (h : f ρ = some (.nx ρ1)) : sSeq f g ρ = g ρ1 := by
  rw [e_sSeq, h]
/-! ### a row -/
theorem in_range (r : Rng) : gIn false .non (eR r) = some (.bl (decide (r.1 = none ∨ r.2 = none))) := by
  obtain ⟨a, b⟩ := r
  cases a <;> cases b <;> rfl
def DKs : List D := [.str "take", .str "take", .str "keep", .str "keep", .str "leave", .str "drop"]
theorem dks_mem {x : D} (h : x ∈ DKs) : ∃ d : Deed, x = eDd d := by
  simp [DKs] at h
  rcases h with rfl | rfl | rfl | rfl
  · exact ⟨.take, rfl⟩
  · exact ⟨.keep, rfl⟩
  · exact ⟨.leave, rfl⟩
  · exact ⟨.drop, rfl⟩
theorem p_row {l : List D} (h : SPr l) {n : Nat} (h0 : 0 < n) (h1 : n ≤ 1000) : ∃ (row : Row) (l' : List D), RowOk n row ∧ F_law_row l [.int (n : Nat)] = some (eRow row, l') ∧ SPr l' := by
  obtain ⟨r, l1, hr, e1, s1⟩ := p_range h
  -- after
  have aft : ∃ (a : Option Rng) (l2 : List D), (∀ x, a = some x → rngOk x) ∧ SPr l2 ∧
      ∀ (X : D), (sIf (dT (dOp gEq (dCS 0 2 F_law_dip (aCons (dC (.int 3)) aNil)) (dC (.int 0)))) (sSet 3 (dCS 0 2 F_law_pick (aCons (dLst (aCons (dTup (aCons (dC (.int 1)) (aCons (dC (.int 1)) aNil))) (aCons (dTup (aCons (dC (.int 1)) (aCons (dC (.int 2)) aNil))) (aCons (dTup (aCons (dC (.int 0)) (aCons (dC (.int 0)) aNil))) (aCons (dTup (aCons (dNeg (dC (.int 1))) (aCons (dC (.int 1)) aNil))) (aCons (dCS 0 1 F_law_range aNil) aNil)))))) aNil))) sNil)
        [some (.lst l1), some X, some (eR r), some .non, none] = some (.nx [some (.lst l2), some X, some (eR r), some (eA a), none]) := by
    obtain ⟨w, l2, e2, hw, s2⟩ := p_dip s1 (n := 3) (by decide) (by decide)
    by_cases hw0 : w = 0
    · subst hw0
      obtain ⟨r', l3, hr', e3, s3⟩ := p_range s2
      obtain ⟨x, l4, hx, e4, s4⟩ := p_pick s3 [eR (some 1, some 1), eR (some 1, some 2), eR (some 0, some 0), eR (some (-1), some 1), eR r'] (by simp) (by simp)
      have hx' : ∃ a : Rng, x = eR a ∧ rngOk a := by
        simp only [List.mem_cons, List.not_mem_nil, or_false] at hx
        rcases hx with rfl | rfl | rfl | rfl | rfl
        · exact ⟨_, rfl, rng_ss (by omega) (by omega) (by omega) (by omega)⟩
        · exact ⟨_, rfl, rng_ss (by omega) (by omega) (by omega) (by omega)⟩
        · exact ⟨_, rfl, rng_ss (by omega) (by omega) (by omega) (by omega)⟩
        · exact ⟨_, rfl, rng_ss (by omega) (by omega) (by omega) (by omega)⟩
        · exact ⟨r', rfl, hr'⟩
      obtain ⟨a, rfl, ha⟩ := hx'
      refine ⟨some a, l4, fun y e => by cases e; exact ha, s4, fun X => ?_⟩
      have f1 : D.tup [.int 1, .int 1] = eR (some 1, some 1) := rfl
      have f2 : D.tup [.int 1, .int 2] = eR (some 1, some 2) := rfl
      have f3 : D.tup [.int 0, .int 0] = eR (some 0, some 0) := rfl
      have f4 : D.tup [.int (-1), .int 1] = eR (some (-1), some 1) := rfl
      simp at e2
      simp [e2, e3, f1, f2, f3, f4, e4, eA]
    · refine ⟨none, l2, fun y e => (nomatch e), s2, fun X => ?_⟩
      simp [e2, hw0, eA]
  obtain ⟨a, l2, ha, s2, ea⟩ := aft
  obtain ⟨x, l3, hx, e3, s3⟩ := p_pick s2 DKs (by simp [DKs]) (by simp [DKs])
  obtain ⟨d, rfl⟩ := dks_mem hx
  obtain ⟨b, l4, e4, hb, s4⟩ := p_dip s3 (n := (n : Int)) (by omega) (by omega)
  have hin := in_range r
  unfold DKs at e3
  have ef : sPar 2 3 (aCons (dCS 0 1 F_law_range aNil) (aCons (dC .non) aNil)) [some (.lst l), some (.int (n : Nat)), none, none, none] = some (.nx [some (.lst l1), some (.int (n : Nat)), some (eR r), some .non, none]) := by
    simp [e1]
  have es : S_law_row [some (.lst l), some (.int (n : Nat)), none, none, none] = _ := (seq_nx ef).trans (seq_nx (ea _))
  have e0 : F_law_row l [.int (n : Nat)] = match S_law_row [some (.lst l), some (.int (n : Nat)), none, none, none] with
    | some (.rt d ρ) => match (ρ : List (Option D))[0]? with
      | some (some (D.lst l')) => some (d, l')
      | _ => none
    | _ => none := rfl
  rw [e0, es]
  -- the deed
  by_cases hk : d = .keep ∧ (r.1 = none ∨ r.2 = none)
  · obtain ⟨rfl, hk⟩ := hk
    refine ⟨⟨r, a, .leave, b⟩, l4, ⟨by show b < n; omega, hr, ha, fun z => (nomatch z)⟩, ?_, s4⟩
    rw [decide_eq_true hk] at hin
    simp [e3, eDd, hin, e4, eRow]
  · refine ⟨⟨r, a, d, b⟩, l4, ⟨by show b < n; omega, hr, ha, fun z => ?_⟩, ?_, s4⟩
    · have z' : d = .keep := z
      have hk' : ¬ (r.1 = none ∨ r.2 = none) := fun q => hk ⟨z', q⟩
      obtain ⟨p, q⟩ := r
      cases p with
      | none => exact absurd (.inl rfl) hk'
      | some p =>
        cases q with
        | none => exact absurd (.inr rfl) hk'
        | some q => exact ⟨p, q, rfl⟩
    · cases d with
      | keep =>
        have hk' : ¬ (r.1 = none ∨ r.2 = none) := fun q => hk ⟨rfl, q⟩
        rw [decide_eq_false hk'] at hin
        simp [e3, eDd, hin, e4, eRow]
      | take => simp [e3, eDd, e4, eRow, st_kt, show (Str.ofString "take" = Str.ofString "keep") = False from eq_false (by decide)]
      | leave => simp [e3, eDd, e4, eRow, st_lk]
      | drop => simp [e3, eDd, e4, eRow, st_dk]
end DL
end
section
set_option Elab.async false
set_option linter.all false
set_option maxRecDepth 100000
set_option autoImplicit false
/-! The plain law: drawn receivers. -/
namespace DL
open PySem PySem.Spec
open PyProof.Rows hiding St
open L2
theorem lR_ok {f : TD} {ρ ρ' : DE} {n : Nat} (h : f ρ = some (.int (n : Nat), ρ')) (hn : n ≤ 1000) : lR f ρ = some ((List.range n).map fun i => D.int (i : Nat), ρ') := by
  have e : (2 : Int) ^ 62 = 4611686018427387904 := by decide
  unfold lR
  rw [h]
  show (if -(2 ^ 62) ≤ (n : Int) ∧ (n : Int) < 2 ^ 62 then some ((List.range (n : Int).toNat).map fun i => D.int (i : Nat), ρ') else none) = _
  rw [e, if_pos ⟨by omega, by omega⟩, Int.toNat_natCast]
theorem RowOk.mono {n m : Nat} {r : Row} (h : RowOk n r) (hm : n ≤ m) : RowOk m r := ⟨by have := h.bh; omega, h.ah, h.af, h.kp⟩
theorem p_window {z : Int} (h1 : 1 ≤ z) (h6 : z ≤ 6) : ∃ R, Good R ∧ F_law_window [.int z] = some (eRc R) := by
  refine ⟨[[⟨(some 1, some z), none, .take, 0⟩]], ⟨by simp, by simp, ?_, ?_⟩, ?_⟩
  · intro rows hr
    simp at hr
    subst hr
    simp
  · intro rows hr r hr'
    simp at hr
    subst hr
    simp at hr'
    subst hr'
    exact ⟨Nat.zero_lt_one, rng_ss (by omega) (by omega) (by omega) (by omega), fun a e => (nomatch e), fun z => (nomatch z)⟩
  · simp [F_law_window, S_law_window, startD, eRc, eSt, eRow, eR, eO, eA, eDd]
theorem p_paired {z w : Int} (h1 : 1 ≤ z) (h5 : z ≤ 5) (hw : z + 1 ≤ w) (h6 : w ≤ 6) {t : Nat} (ht : t = 2 ∨ t = 3) : ∃ R, Good R ∧ F_law_paired [.int z, .int w, .int (t : Nat)] = some (eRc R) := by
  have zr : rngOk (some (z + 1), some w) := rng_ss (by omega) (by omega) (by omega) (by omega)
  have r1 : rngOk (some 1, some z) := rng_ss (by omega) (by omega) (by omega) (by omega)
  have r11 : rngOk (some 1, some 1) := rng_ss (by omega) (by omega) (by omega) (by omega)
  have s1 : (1 < sizeLine) = True := eq_true (sz' _ (by omega))
  have s2 : (2 < sizeLine) = True := eq_true (sz' _ (by omega))
  have s0 : (0 < sizeLine) = True := eq_true (sz' _ (by omega))
  have t1 : (1 + 1 ≤ sizeLine) = True := eq_true (sz _ (by omega))
  have t2 : (2 + 1 ≤ sizeLine) = True := eq_true (sz _ (by omega))
  have hlr : ∀ (t : Nat) (A B C D' E F : Option D), t ≤ 1000 → lR (dV 2) [A, B, some (.int (t : Nat)), C, D', E, F] = some ((List.range t).map fun i => D.int (i : Nat), [A, B, some (.int (t : Nat)), C, D', E, F]) := fun t A B C D' E F h => lR_ok (by simp) h
  rcases ht with rfl | rfl
  · have hl2 : ∀ A B C D' E F : Option D, lR (dV 2) [A, B, some (.int 2), C, D', E, F] = some ([.int 0, .int 1], [A, B, some (.int 2), C, D', E, F]) := fun A B C D' E F => hlr 2 A B C D' E F (by omega)
    refine ⟨[[⟨(some 1, some z), none, .take, 0⟩, ⟨(some (z + 1), some w), none, .keep, 1⟩], [⟨(some 1, some z), none, .take, 0⟩, ⟨(some (z + 1), some w), some (some 1, some 1), .take, 0⟩, ⟨(some (z + 1), some w), none, .keep, 1⟩]], ⟨by simp, by simp, ?_, ?_⟩, ?_⟩
    · intro rows hr
      simp at hr
      rcases hr with rfl | rfl <;> simp
    · intro rows hr r hr'
      simp at hr
      rcases hr with rfl | rfl
      · simp at hr'
        rcases hr' with rfl | rfl
        · exact ⟨by simp, r1, fun a e => (nomatch e), fun z => (nomatch z)⟩
        · exact ⟨by simp, zr, fun a e => (nomatch e), fun _ => ⟨_, _, rfl⟩⟩
      · simp at hr'
        rcases hr' with rfl | rfl | rfl
        · exact ⟨by simp, r1, fun a e => (nomatch e), fun z => (nomatch z)⟩
        · exact ⟨by simp, zr, fun a e => by cases e; exact r11, fun z => (nomatch z)⟩
        · exact ⟨by simp, zr, fun a e => (nomatch e), fun _ => ⟨_, _, rfl⟩⟩
    · simp [-e_lR, hl2, F_law_paired, S_law_paired, startD, List.range_succ, sFL_cons, sFL_nil, s0, s1, s2, t1, t2, eRc, eSt, eRow, eR, eO, eA, eDd]
  · have hl2 : ∀ A B C D' E F : Option D, lR (dV 2) [A, B, some (.int 3), C, D', E, F] = some ([.int 0, .int 1, .int 2], [A, B, some (.int 3), C, D', E, F]) := fun A B C D' E F => hlr 3 A B C D' E F (by omega)
    refine ⟨[[⟨(some 1, some z), none, .take, 0⟩, ⟨(some (z + 1), some w), none, .keep, 1⟩], [⟨(some 1, some z), none, .take, 0⟩, ⟨(some (z + 1), some w), some (some 1, some 1), .keep, 2⟩, ⟨(some (z + 1), some w), none, .keep, 1⟩],
        [⟨(some 1, some z), none, .take, 0⟩, ⟨(some (z + 1), some w), some (some 1, some 1), .take, 0⟩, ⟨(some (z + 1), some w), none, .keep, 1⟩]], ⟨by simp, by simp, ?_, ?_⟩, ?_⟩
    · intro rows hr
      simp at hr
      rcases hr with rfl | rfl | rfl <;> simp
    · intro rows hr r hr'
      simp at hr
      rcases hr with rfl | rfl | rfl
      · simp at hr'
        rcases hr' with rfl | rfl
        · exact ⟨by simp, r1, fun a e => (nomatch e), fun z => (nomatch z)⟩
        · exact ⟨by simp, zr, fun a e => (nomatch e), fun _ => ⟨_, _, rfl⟩⟩
      · simp at hr'
        rcases hr' with rfl | rfl | rfl
        · exact ⟨by simp, r1, fun a e => (nomatch e), fun z => (nomatch z)⟩
        · exact ⟨by simp, zr, fun a e => by cases e; exact r11, fun _ => ⟨_, _, rfl⟩⟩
        · exact ⟨by simp, zr, fun a e => (nomatch e), fun _ => ⟨_, _, rfl⟩⟩
      · simp at hr'
        rcases hr' with rfl | rfl | rfl
        · exact ⟨by simp, r1, fun a e => (nomatch e), fun z => (nomatch z)⟩
        · exact ⟨by simp, zr, fun a e => by cases e; exact r11, fun z => (nomatch z)⟩
        · exact ⟨by simp, zr, fun a e => (nomatch e), fun _ => ⟨_, _, rfl⟩⟩
    · simp [-e_lR, hl2, F_law_paired, S_law_paired, startD, List.range_succ, sFL_cons, sFL_nil, s0, s1, s2, t1, t2, eRc, eSt, eRow, eR, eO, eA, eDd]
theorem rows_drawn {n : Nat} (h0 : 0 < n) (h1 : n ≤ 1000) (A B C D4 : Option D) (F G : Option D) : ∀ (ds : List D) (l : List D), SPr l → ∃ (rows : List Row) (l' : List D), rows.length = ds.length ∧ (∀ r ∈ rows, RowOk n r) ∧ SPr l' ∧
    lcL [8] (gN 8) bYes (dCS 0 2 F_law_row (aCons (dV 5) aNil)) ds [some (.lst l), A, B, C, D4, some (.int (n : Nat)), F, G, none] = some (rows.map eRow, [some (.lst l'), A, B, C, D4, some (.int (n : Nat)), F, G, none])
  | [], l, h => ⟨[], l, rfl, by simp, h, rfl⟩
  | d :: ds, l, h => by
    obtain ⟨row, l1, hr, e1, s1⟩ := p_row h h0 h1
    obtain ⟨rows, l2, hl, hok, s2, e2⟩ := rows_drawn h0 h1 A B C D4 F G ds l1 s1
    refine ⟨row :: rows, l2, by simp [hl], fun r hr' => ?_, s2, ?_⟩
    · rcases List.mem_cons.mp hr' with z | z
      · rw [z]; exact hr
      · exact hok r z
    · rw [lcL]
      simp [e1, wipeD]
      rw [e2]
def bodyRv : SD := (sApp 6 (dCb gTuple (aCons (dLc [6, 0] [8] (lR (dCS 0 2 F_law_dip (aCons (dOp gAdd (dV 2) (dC (.int 1))) aNil))) (gN 8) bYes (dCS 0 2 F_law_row (aCons (dV 5) aNil))) aNil)))
theorem k1 {l1 : List D} : (bAnd (dT (dOp gEq (dV 3) (dC (.int 1)))) (bAnd (dT (dOp gGt (dV 1) (dC (.int 1)))) (dT (dOp gGt (dV 2) (dC (.int 2)))))) [some (.lst l1), some (.int 3), some (.int 4), some (.int 1), none, none, none, none, none] = some (true, [some (.lst l1), some (.int 3), some (.int 4), some (.int 1), none, none, none, none, none]) := by simp
theorem k2 {l1 l2 : List D} {v : Nat} {z : Int} (hz : (1 : Int) + (v : Int) = z) (e2 : F_law_dip l1 [.int 5] = some (.int (v : Nat), l2)) : (sSet 4 (dOp gAdd (dC (.int 1)) (dCS 0 2 F_law_dip (aCons (dC (.int 5)) aNil)))) [some (.lst l1), some (.int 3), some (.int 4), some (.int 1), none, none, none, none, none] = some (.nx [some (.lst l2), some (.int 3), some (.int 4), some (.int 1), some (.int z), none, none, none, none]) := by simp [e2, hz]
theorem k3 {l2 l3 : List D} {u : Nat} {z a : Int} (ha : 6 - z = a) (e3 : F_law_dip l2 [.int a] = some (.int (u : Nat), l3)) : (dCS 0 2 F_law_dip (aCons (dOp gSub (dC (.int 6)) (dV 4)) aNil)) [some (.lst l2), some (.int 3), some (.int 4), some (.int 1), some (.int z), none, none, none, none] = some (.int (u : Nat), [some (.lst l3), some (.int 3), some (.int 4), some (.int 1), some (.int z), none, none, none, none]) := by simp [ha, e3]
theorem k4 {l3 l4 : List D} {x : Nat} {z : Int} (e4 : F_law_dip l3 [.int 2] = some (.int (x : Nat), l4)) : (dCS 0 2 F_law_dip (aCons (dOp gSub (dV 1) (dC (.int 1))) aNil)) [some (.lst l3), some (.int 3), some (.int 4), some (.int 1), some (.int z), none, none, none, none] = some (.int (x : Nat), [some (.lst l4), some (.int 3), some (.int 4), some (.int 1), some (.int z), none, none, none, none]) := by simp [e4]

def blkA (FP : List D → Option D) : SD := (sSeq (sSet 4 (dOp gAdd (dC (.int 1)) (dCS 0 2 F_law_dip (aCons (dC (.int 5)) aNil))))
    (sRet (dCal 3 FP (aCons (dV 4) (aCons (dOp gAdd (dOp gAdd (dV 4) (dC (.int 1))) (dCS 0 2 F_law_dip (aCons (dOp gSub (dC (.int 6)) (dV 4)) aNil))) (aCons (dOp gAdd (dC (.int 2)) (dCS 0 2 F_law_dip (aCons (dOp gSub (dV 1) (dC (.int 1))) aNil))) aNil))))))
theorem k5 (FP : List D → Option D) {l1 l2 l3 l4 : List D} {v u x : Nat} {z a b : Int} {R : Rcv} (hz : (1 : Int) + (v : Int) = z) (ha : 6 - z = a) (hb : z + 1 + (u : Int) = b) (e2 : F_law_dip l1 [.int 5] = some (.int (v : Nat), l2)) (e3 : F_law_dip l2 [.int a] = some (.int (u : Nat), l3)) (e4 : F_law_dip l3 [.int 2] = some (.int (x : Nat), l4))
    (eR_ : FP [.int z, .int b, .int (2 + (x : Int))] = some (eRc R)) : blkA FP [some (.lst l1), some (.int 3), some (.int 4), some (.int 1), none, none, none, none, none] = some (.rt (eRc R) [some (.lst l4), some (.int 3), some (.int 4), some (.int 1), some (.int z), none, none, none, none]) := by
  rw [blkA, seq_nx (k2 hz e2), e_sRet, e_dCal]
  simp [-e_dCS, k3 ha e3, k4 e4, hb, eR_]
theorem rv1 {l l1 l2 l3 l4 : List D} {v u x : Nat} {z a b : Int} {R : Rcv} (hz : (1 : Int) + (v : Int) = z) (ha : 6 - z = a) (hb : z + 1 + (u : Int) = b) (e1 : F_law_dip l [.int 8] = some (.int 1, l1)) (e2 : F_law_dip l1 [.int 5] = some (.int (v : Nat), l2)) (e3 : F_law_dip l2 [.int a] = some (.int (u : Nat), l3)) (e4 : F_law_dip l3 [.int 2] = some (.int (x : Nat), l4))
    (eR_ : F_law_paired [.int z, .int b, .int (2 + (x : Int))] = some (eRc R)) : F_law_receiver l [.int 3, .int 4] = some (eRc R, l4) := by
  have q1 : (sSet 3 (dCS 0 2 F_law_dip (aCons (dC (.int 8)) aNil))) [some (.lst l), some (.int 3), some (.int 4), none, none, none, none, none, none] = some (.nx [some (.lst l1), some (.int 3), some (.int 4), some (.int 1), none, none, none, none, none]) := by simp [e1]
  have q2 : (sIf (dT (dOp gEq (dV 3) (dC (.int 0)))) (sRet (dCal 1 F_law_window (aCons (dOp gAdd (dC (.int 1)) (dCS 0 2 F_law_dip (aCons (dC (.int 6)) aNil))) aNil))) sNil) [some (.lst l1), some (.int 3), some (.int 4), some (.int 1), none, none, none, none, none] = some (.nx [some (.lst l1), some (.int 3), some (.int 4), some (.int 1), none, none, none, none, none]) := by simp
  have e0 : F_law_receiver l [.int 3, .int 4] = match S_law_receiver [some (.lst l), some (.int 3), some (.int 4), none, none, none, none, none, none] with
    | some (.rt d ρ) => match (ρ : List (Option D))[0]? with
      | some (some (D.lst l')) => some (d, l')
      | _ => none
    | _ => none := rfl
  have es : S_law_receiver [some (.lst l), some (.int 3), some (.int 4), none, none, none, none, none, none] = _ := (seq_nx q1).trans (seq_nx q2)
  have q3 : (sIf (bAnd (dT (dOp gEq (dV 3) (dC (.int 1)))) (bAnd (dT (dOp gGt (dV 1) (dC (.int 1)))) (dT (dOp gGt (dV 2) (dC (.int 2)))))) (blkA F_law_paired) sNil) [some (.lst l1), some (.int 3), some (.int 4), some (.int 1), none, none, none, none, none] = some (.rt (eRc R) [some (.lst l4), some (.int 3), some (.int 4), some (.int 1), some (.int z), none, none, none, none]) := by
    rw [e_sIf, k1]
    exact k5 F_law_paired hz ha hb e2 e3 e4 eR_
  unfold blkA at q3
  rw [e0, es, e_sSeq, q3]
  rfl
theorem rv2 {l l1 l2 l3 : List D} {w v n : Nat} {x7 : Option D} {R : Rcv} (h0 : w ≠ 0) (h1 : w ≠ 1) (hn : n ≤ 1000) (en : (1 : Int) + (v : Int) = (n : Int)) (e1 : F_law_dip l [.int 8] = some (.int (w : Nat), l1)) (e2 : F_law_dip l1 [.int 3] = some (.int (v : Nat), l2))
    (e : sForL (gN 7) bodyRv ((List.range n).map fun i => D.int (i : Nat)) [some (.lst l2), some (.int 3), some (.int 4), some (.int (w : Nat)), none, some (.int (n : Nat)), some (.lst []), none, none] = some (.nx [some (.lst l3), some (.int 3), some (.int 4), some (.int (w : Nat)), none, some (.int (n : Nat)), some (.lst (R.map eSt)), x7, none])) :
    F_law_receiver l [.int 3, .int 4] = some (eRc R, l3) := by
  have i0 : ((w : Int) = 0) = False := eq_false (by omega)
  have i1 : ((w : Int) = 1) = False := eq_false (by omega)
  have q1 : (sSet 3 (dCS 0 2 F_law_dip (aCons (dC (.int 8)) aNil))) [some (.lst l), some (.int 3), some (.int 4), none, none, none, none, none, none] = some (.nx [some (.lst l1), some (.int 3), some (.int 4), some (.int (w : Nat)), none, none, none, none, none]) := by simp [e1]
  have q2 : (sIf (dT (dOp gEq (dV 3) (dC (.int 0)))) (sRet (dCal 1 F_law_window (aCons (dOp gAdd (dC (.int 1)) (dCS 0 2 F_law_dip (aCons (dC (.int 6)) aNil))) aNil))) sNil) [some (.lst l1), some (.int 3), some (.int 4), some (.int (w : Nat)), none, none, none, none, none] = some (.nx [some (.lst l1), some (.int 3), some (.int 4), some (.int (w : Nat)), none, none, none, none, none]) := by simp [h0]
  have q3 : ∀ b : SD, (sIf (bAnd (dT (dOp gEq (dV 3) (dC (.int 1)))) (bAnd (dT (dOp gGt (dV 1) (dC (.int 1)))) (dT (dOp gGt (dV 2) (dC (.int 2)))))) b sNil) [some (.lst l1), some (.int 3), some (.int 4), some (.int (w : Nat)), none, none, none, none, none] = some (.nx [some (.lst l1), some (.int 3), some (.int 4), some (.int (w : Nat)), none, none, none, none, none]) := fun b => by simp [i1]
  have q4 : (sSet 5 (dOp gAdd (dC (.int 1)) (dCS 0 2 F_law_dip (aCons (dV 1) aNil)))) [some (.lst l1), some (.int 3), some (.int 4), some (.int (w : Nat)), none, none, none, none, none] = some (.nx [some (.lst l2), some (.int 3), some (.int 4), some (.int (w : Nat)), none, some (.int (n : Nat)), none, none, none]) := by simp [e2, en]
  have q5 : (sSet 6 (dLst aNil)) [some (.lst l2), some (.int 3), some (.int 4), some (.int (w : Nat)), none, some (.int (n : Nat)), none, none, none] = some (.nx [some (.lst l2), some (.int 3), some (.int 4), some (.int (w : Nat)), none, some (.int (n : Nat)), some (.lst []), none, none]) := by simp
  have hlr : lR (dV 5) [some (.lst l2), some (.int 3), some (.int 4), some (.int (w : Nat)), none, some (.int (n : Nat)), some (.lst []), none, none] = _ := lR_ok (n := n) (ρ' := [some (.lst l2), some (.int 3), some (.int 4), some (.int (w : Nat)), none, some (.int (n : Nat)), some (.lst []), none, none]) (by simp) hn
  have q6 : sFor (lR (dV 5)) (gN 7) bodyRv [some (.lst l2), some (.int 3), some (.int 4), some (.int (w : Nat)), none, some (.int (n : Nat)), some (.lst []), none, none] = some (.nx [some (.lst l3), some (.int 3), some (.int 4), some (.int (w : Nat)), none, some (.int (n : Nat)), some (.lst (R.map eSt)), x7, none]) := by
    rw [e_sFor, hlr, Option.bind_some, e]
  have e0 : F_law_receiver l [.int 3, .int 4] = match S_law_receiver [some (.lst l), some (.int 3), some (.int 4), none, none, none, none, none, none] with
    | some (.rt d ρ) => match (ρ : List (Option D))[0]? with
      | some (some (D.lst l')) => some (d, l')
      | _ => none
    | _ => none := rfl
  unfold bodyRv at q6
  have es : S_law_receiver [some (.lst l), some (.int 3), some (.int 4), none, none, none, none, none, none] = _ := (seq_nx q1).trans ((seq_nx q2).trans ((seq_nx (q3 _)).trans ((seq_nx q4).trans ((seq_nx q5).trans (seq_nx q6)))))
  rw [e0, es]
  simp [eRc]
theorem p_receiver {l : List D} (h : SPr l) : ∃ (R : Rcv) (l' : List D), Good R ∧ F_law_receiver l [.int 3, .int 4] = some (eRc R, l') ∧ SPr l' := by
  obtain ⟨w, l1, e1, hw, s1⟩ := p_dip h (n := 8) (by decide) (by decide)
  by_cases h0 : w = 0
  · subst h0
    obtain ⟨v, l2, e2, hv, s2⟩ := p_dip s1 (n := 6) (by decide) (by decide)
    obtain ⟨R, G, eR_⟩ := p_window (z := 1 + (v : Int)) (by omega) (by omega)
    simp at e1
    exact ⟨R, l2, G, by simp [F_law_receiver, S_law_receiver, startD, e1, e2, eR_], s2⟩
  · have i0 : ((w : Int) = 0) = False := eq_false (by omega)
    by_cases hw1 : w = 1
    · subst hw1
      obtain ⟨v, l2, e2, hv, s2⟩ := p_dip s1 (n := 5) (by decide) (by decide)
      obtain ⟨u, l3, e3, hu, s3⟩ := p_dip s2 (n := 6 - (1 + (v : Int))) (by omega) (by omega)
      obtain ⟨x, l4, e4, hx, s4⟩ := p_dip s3 (n := 2) (by decide) (by decide)
      obtain ⟨R, G, eR_⟩ := p_paired (z := 1 + (v : Int)) (w := 1 + (v : Int) + 1 + (u : Int)) (by omega) (by omega) (by omega) (by omega) (t := 2 + x) (by omega)
      rw [show (((2 + x : Nat) : Int)) = 2 + (x : Int) by omega] at eR_
      exact ⟨R, l4, G, rv1 rfl rfl rfl e1 e2 e3 e4 eR_, s4⟩
    · have i1 : ((w : Int) = 1) = False := eq_false (by omega)
      obtain ⟨v, l2, e2, hv, s2⟩ := p_dip s1 (n := 3) (by decide) (by decide)
      obtain ⟨n, hn⟩ : ∃ n : Nat, n = 1 + v := ⟨_, rfl⟩
      have en : (1 : Int) + (v : Int) = (n : Int) := by omega
      have f := sFor_nx (fun i : Nat => D.int (i : Nat)) (g := gN 7) (b := bodyRv)
        (fun r ρ => ∃ (R : Rcv) (l3 : List D) (x7 : Option D), ρ = [some (.lst l3), some (.int 3), some (.int 4), some (.int (w : Nat)), none, some (.int (n : Nat)), some (.lst (R.map eSt)), x7, none] ∧ SPr l3 ∧ R.length + r.length = n ∧ (∀ rows ∈ R, rows.length ≤ 6) ∧ ∀ rows ∈ R, ∀ row ∈ rows, RowOk n row)
        ?_ (List.range n) [some (.lst l2), some (.int 3), some (.int 4), some (.int (w : Nat)), none, some (.int (n : Nat)), some (.lst []), none, none] ⟨[], l2, none, rfl, s2, by simp, by simp, by simp⟩
      · obtain ⟨ρ', e, R, l3, x7, rfl, s3, hR, h6, hok⟩ := f
        simp at hR
        refine ⟨R, l3, ⟨by omega, by omega, h6, by rw [hR]; exact hok⟩, ?_, s3⟩
        exact rv2 h0 hw1 (by omega) en e1 e2 e
      · rintro i r ρ ⟨R, l3, x7, rfl, s3, hR, h6, hok⟩
        obtain ⟨u, l4, e4, hu, s4⟩ := p_dip s3 (n := 5) (by decide) (by decide)
        obtain ⟨rows, l5, hrl, hro, s5, e5⟩ := rows_drawn (n := n) (by omega) (by omega) (some (.int 3)) (some (.int 4)) (some (.int (w : Nat))) none (some (.lst (R.map eSt))) (some (.int (i : Nat))) ((List.range u).map fun i => D.int (i : Nat)) l4 s4
        simp at hrl hR
        have szl : (u < sizeLine) = True := eq_true (sz' _ (by omega))
        have szR : (R.length < sizeLine) = True := eq_true (sz' _ (by omega))
        refine ⟨[some (.lst l3), some (.int 3), some (.int 4), some (.int (w : Nat)), none, some (.int (n : Nat)), some (.lst (R.map eSt)), some (.int (i : Nat)), none],
          [some (.lst l5), some (.int 3), some (.int 4), some (.int (w : Nat)), none, some (.int (n : Nat)), some (.lst ((R ++ [rows]).map eSt)), some (.int (i : Nat)), none], by simp, ?_, R ++ [rows], l5, _, rfl, s5, by simp; omega, ?_, ?_⟩
        · have hlr : lR (dCS 0 2 F_law_dip (aCons (dOp gAdd (dV 2) (dC (.int 1))) aNil)) [some (.lst l3), some (.int 3), some (.int 4), some (.int (w : Nat)), none, some (.int (n : Nat)), some (.lst (R.map eSt)), some (.int (i : Nat)), none] = _ := lR_ok (n := u) (ρ' := [some (.lst l4), some (.int 3), some (.int 4), some (.int (w : Nat)), none, some (.int (n : Nat)), some (.lst (R.map eSt)), some (.int (i : Nat)), none]) (by simp [e4]) (by omega)
          simp [-e_lR, bodyRv, hlr, szl, wipeD]
          rw [e5]
          simp [mixD, szR, eSt]
        · intro rs hrs
          rcases List.mem_append.mp hrs with z | z
          · exact h6 rs z
          · simp at z; subst z; omega
        · intro rs hrs
          rcases List.mem_append.mp hrs with z | z
          · exact hok rs z
          · simp at z; subst z; exact hro
end DL
end
section
set_option Elab.async false
set_option linter.all false
set_option maxRecDepth 100000
set_option autoImplicit false
/-! The plain law: receivers that are changed: wider. -/
namespace DL
open PySem PySem.Spec
open PyProof.Rows hiding St
open L2
theorem sl_Rc_to (R : Rcv) (st : Nat) : gSl none (some (st : Int)) (eRc R) = some (.tup ((R.take st).map eSt)) := by
  show some (D.tup (cutD _ _ _)) = _
  rw [cutD_to, List.map_take]
theorem sl_Rc_from (R : Rcv) (st : Nat) : gSl (some (st : Int)) none (eRc R) = some (.tup ((R.drop st).map eSt)) := by
  show some (D.tup (cutD _ _ _)) = _
  rw [cutD_from, List.map_drop]
theorem add_tup {a b : List D} (h : a.length + b.length ≤ 1000) : gAdd (.tup a) (.tup b) = some (.tup (a ++ b)) := by
  rw [o_gAdd_t, if_pos (sz _ (by omega))]
theorem p_put {R : Rcv} (hR : R.length ≤ 4) {st : Nat} (hst : st < R.length) {rows' : List Row} {ρ ρ' : DE} (i j : Nat) {fx : TD} (h1 : ρ[i]? = some (some (eRc R))) (h2 : ρ[j]? = some (some (.int (st : Nat)))) (hx : fx ρ = some (eSt rows', ρ')) (h1' : ρ'[i]? = some (some (eRc R))) (h2' : ρ'[j]? = some (some (.int (st : Nat)))) :
    dOp gAdd (dOp gAdd (dSl (dV i) oN (oS (dV j))) (dTup (aCons fx aNil))) (dSl (dV i) (oS (dOp gAdd (dV j) (dC (.int 1)))) oN) ρ = some (eRc (R.set st rows'), ρ') := by
  have e1 : ((st : Int) + 1) = ((st + 1 : Nat) : Int) := by omega
  have a1 := sl_Rc_to R st
  have a2 := sl_Rc_from R (st + 1)
  have a3 : gAdd (.tup ((R.take st).map eSt)) (.tup [eSt rows']) = some (.tup ((R.take st).map eSt ++ [eSt rows'])) := add_tup (by rw [List.length_map, List.length_take]; simp only [List.length_cons, List.length_nil]; omega)
  have a4 : gAdd (.tup ((R.take st).map eSt ++ [eSt rows'])) (.tup ((R.drop (st + 1)).map eSt)) = some (.tup ((R.take st).map eSt ++ [eSt rows'] ++ (R.drop (st + 1)).map eSt)) := add_tup (by rw [List.length_append, List.length_map, List.length_take, List.length_map, List.length_drop]; simp only [List.length_cons, List.length_nil]; omega)
  have a5 : D.tup ((R.take st).map eSt ++ [eSt rows'] ++ (R.drop (st + 1)).map eSt) = eRc (R.set st rows') := by
    unfold eRc
    rw [List.set_eq_take_append_cons_drop, if_pos hst, List.map_append, List.map_cons, List.append_assoc]
    rfl
  have d1 : dV i ρ = some (eRc R, ρ) := by rw [e_dV, h1]
  have d2 : dV j ρ = some (.int (st : Nat), ρ) := by rw [e_dV, h2]
  have d1' : dV i ρ' = some (eRc R, ρ') := by rw [e_dV, h1']
  have d2' : dV j ρ' = some (.int (st : Nat), ρ') := by rw [e_dV, h2']
  simp only [e_dOp, e_dSl, e_oN, e_oS, e_dTup, e_aCons, e_aNil, e_dC, d1, d2, Option.bind_some, a1, Option.map_some, hx, List.length_cons, List.length_nil, a3, d1', d2', o_gAdd_i, e1, a2, a4, a5]
  rw [if_pos (by omega)]
  simp only [Option.bind_some, a3, Option.map_some, d1', d2', o_gAdd_i, e1, a2, a4, a5]
theorem Good.put {R : Rcv} (G : Good R) {st : Nat} (hst : st < R.length) {rows' : List Row} (h6 : rows'.length ≤ 6) (hok : ∀ r ∈ rows', RowOk R.length r) : Good (R.set st rows') where
  pos := by rw [List.length_set]; exact G.pos
  le := by rw [List.length_set]; exact G.le
  few rows h := by
    rcases List.mem_or_eq_of_mem_set h with z | z
    · exact G.few rows z
    · rw [z]; exact h6
  row rows h r hr := by
    rw [List.length_set]
    rcases List.mem_or_eq_of_mem_set h with z | z
    · exact G.row rows z r hr
    · rw [z] at hr; exact hok r hr
theorem add_row (rows : List Row) (row : Row) (h : rows.length ≤ 6) : gAdd (eSt rows) (.tup [eRow row]) = some (eSt (rows ++ [row])) := by
  show gAdd (.tup (rows.map eRow)) (.tup [eRow row]) = _
  rw [add_tup (by rw [List.length_map]; simp only [List.length_cons, List.length_nil]; omega)]
  unfold eSt
  rw [List.map_append]
  rfl
theorem len_St (rows : List Row) : gLen [eSt rows] = some (.int rows.length) := by
  show some (D.int ((rows.map eRow).length : Nat)) = _
  rw [List.length_map]
theorem len_Rc (R : Rcv) : gLen [eRc R] = some (.int R.length) := by
  show some (D.int ((R.map eSt).length : Nat)) = _
  rw [List.length_map]
/-- steps of a receiver, one of whose states is changed -/
theorem step_set {R : Rcv} {st : Nat} {rows' : List Row} (r : Rest) (s : Int) (h : r.1 ≠ st) : stepR (R.set st rows') r s = stepR R r s := by
  unfold stepR
  rw [List.getElem?_set_ne (fun z => h z.symm)]
theorem step_at {R : Rcv} {st : Nat} {rows : List Row} (hr : R[st]? = some rows) (r : Rest) (s : Int) (h : r.1 = st) : stepR R r s = match rows.find? (fun row => counts row r.2 s) with
    | none => (false, r)
    | some row => match row.deed with
      | .take => (true, (row.behind, none))
      | .keep => (false, (row.behind, some s))
      | .drop => (false, (row.behind, none))
      | .leave => (false, (row.behind, r.2)) := by
  unfold stepR
  rw [h, hr, Option.getD_some]
  all_goals
    cases rows.find? (fun row => counts row r.2 s) with
    | none => rfl
    | some row => rfl
theorem set_at {R : Rcv} {st : Nat} (h : st < R.length) (rows' : List Row) : (R.set st rows')[st]? = some rows' := List.getElem?_set_self h
theorem find_snoc {α : Type} (p : α → Bool) (l : List α) (x : α) : (l ++ [x]).find? p = match l.find? p with
    | some y => some y
    | none => if p x then some x else none := by
  rw [List.find?_append]
  cases l.find? p with
  | some y => rfl
  | none =>
    cases h : p x <;> simp [h]
theorem p_wider {R : Rcv} (G : Good R) {l : List D} (h : SPr l) : ∃ (R' : Rcv) (l' : List D), Good R' ∧ F_law_wider l [eRc R] = some (eRc R', l') ∧ SPr l' ∧ ∀ rising, ¬ OV rising R R' := by
  have hp := G.pos
  have hle := G.le
  obtain ⟨st, l1, e1, hst, s1⟩ := p_dip h (n := (R.length : Int)) (by omega) (by omega)
  have hst' : st < R.length := by omega
  have hrows : R[st]? = some R[st] := List.getElem?_eq_getElem hst'
  have h6 := G.few _ (List.getElem_mem hst')
  have i1 := ix_Rc hrows
  by_cases h5 : 5 < R[st].length
  · refine ⟨R, l1, G, ?_, s1, fun rising => ?_⟩
    · have z : ((5 : Int) < (R[st].length : Int)) = True := eq_true (by omega)
      simp [F_law_wider, S_law_wider, startD, len_Rc, e1, i1, len_St, z]
    · exact above_of fun r s => .inl rfl
  · obtain ⟨rg, l2, hrg, e2, s2⟩ := p_range s1
    obtain ⟨b, l3, e3, hb, s3⟩ := p_dip s2 (n := (R.length : Int)) (by omega) (by omega)
    have z : ((5 : Int) < (R[st].length : Int)) = False := eq_false (by omega)
    refine ⟨R.set st (R[st] ++ [⟨rg, none, .take, b⟩]), l3, G.put hst' (by rw [List.length_append]; simp only [List.length_cons, List.length_nil]; omega) ?_, ?_, s3, fun rising => above_of fun r s => ?_⟩
    · intro r hr
      rcases List.mem_append.mp hr with q | q
      · exact G.row _ (List.getElem_mem hst') r q
      · simp at q
        subst q
        exact ⟨by show b < R.length; omega, hrg, fun a e => (nomatch e), fun z => (nomatch z)⟩
    · have er : D.tup [eR rg, .non, .str "take", .int (b : Nat)] = eRow ⟨rg, none, .take, b⟩ := rfl
      have ar := add_row R[st] ⟨rg, none, .take, b⟩ h6
      have pp := p_put (R := R) hle hst' (rows' := R[st] ++ [⟨rg, none, .take, b⟩]) (ρ := [some (.lst l3), some (eRc R), some (.int (st : Nat)), some (eSt R[st]), some (eRow ⟨rg, none, .take, b⟩)]) (ρ' := [some (.lst l3), some (eRc R), some (.int (st : Nat)), some (eSt R[st]), some (eRow ⟨rg, none, .take, b⟩)]) 1 2 (fx := dOp gAdd (dV 3) (dTup (aCons (dV 4) aNil))) rfl rfl (by simp [ar]) rfl rfl
      have q1 : (sSet 2 (dCS 0 2 F_law_dip (aCons (dCb gLen (aCons (dV 1) aNil)) aNil))) [some (.lst l), some (eRc R), none, none, none] = some (.nx [some (.lst l1), some (eRc R), some (.int (st : Nat)), none, none]) := by simp [len_Rc, e1]
      have q2 : (sSet 3 (dOp gIx (dV 1) (dV 2))) [some (.lst l1), some (eRc R), some (.int (st : Nat)), none, none] = some (.nx [some (.lst l1), some (eRc R), some (.int (st : Nat)), some (eSt R[st]), none]) := by simp [i1]
      have q3 : (sIf (dT (dOp gGt (dCb gLen (aCons (dV 3) aNil)) (dC (.int 5)))) (sRet (dV 1)) sNil) [some (.lst l1), some (eRc R), some (.int (st : Nat)), some (eSt R[st]), none] = some (.nx [some (.lst l1), some (eRc R), some (.int (st : Nat)), some (eSt R[st]), none]) := by simp [len_St, z]
      have q4 : (sSet 4 (dTup (aCons (dCS 0 1 F_law_range aNil) (aCons (dC .non) (aCons (dC (.str "take")) (aCons (dCS 0 2 F_law_dip (aCons (dCb gLen (aCons (dV 1) aNil)) aNil)) aNil)))))) [some (.lst l1), some (eRc R), some (.int (st : Nat)), some (eSt R[st]), none] = some (.nx [some (.lst l3), some (eRc R), some (.int (st : Nat)), some (eSt R[st]), some (eRow ⟨rg, none, .take, b⟩)]) := by
        simp [e2, len_Rc, e3, er]
      have es : S_law_wider [some (.lst l), some (eRc R), none, none, none] = _ := (seq_nx q1).trans ((seq_nx q2).trans ((seq_nx q3).trans (seq_nx q4)))
      have e0 : F_law_wider l [eRc R] = match S_law_wider [some (.lst l), some (eRc R), none, none, none] with
        | some (.rt d ρ) => match (ρ : List (Option D))[0]? with
          | some (some (D.lst l')) => some (d, l')
          | _ => none
        | _ => none := rfl
      rw [e0, es, e_sRet, pp]
      rfl
    · by_cases hs : r.1 = st
      · rw [step_at hrows r s hs, step_at (set_at hst' _) r s hs, find_snoc]
        cases q : R[st].find? (fun row => counts row r.2 s) with
        | some row => exact .inl rfl
        | none =>
          simp only
          by_cases c : counts ⟨rg, none, .take, b⟩ r.2 s = true
          · rw [if_pos c]
            exact .inr (by simp)
          · rw [if_neg c]
            exact .inl rfl
      · exact .inl (step_set r s hs).symm
end DL
end
section
set_option Elab.async false
set_option linter.all false
set_option maxRecDepth 100000
set_option maxHeartbeats 4000000
set_option autoImplicit false
/-! The plain law: receivers that are changed: varied. -/
namespace DL
open PySem PySem.Spec
open PyProof.Rows hiding St
open L2
theorem en_rng : EnOk eR 1 := en_O.pair en_O
theorem okA (a : Option Rng) : isPy (eA a) = true ∧ (py (eA a)).canLay0 = true ∧ (py (eA a)).depth ≤ 1 := by
  cases a with
  | none => exact ⟨rfl, rfl, Nat.zero_le _⟩
  | some r => exact ⟨en_rng.isp r, en_rng.lay r, en_rng.dep r⟩
theorem okDd (d : Deed) : isPy (eDd d) = true ∧ (py (eDd d)).canLay0 = true ∧ (py (eDd d)).depth = 0 := by
  cases d <;> exact ⟨rfl, by decide +kernel, rfl⟩
theorem okRow (r : Row) : isPy (eRow r) = true ∧ (py (eRow r)).canLay0 = true ∧ (py (eRow r)).depth ≤ 2 := by
  obtain ⟨ah, af, dd, bh⟩ := r
  have a := okA af
  have d := okDd dd
  refine ⟨?_, ?_, ?_⟩
  · show (isPy (eR ah) && (isPy (eA af) && (isPy (eDd dd) && (true && true)))) = true
    rw [en_rng.isp, a.1, d.1]
    rfl
  · show ((py (eR ah)).canLay0 && ((py (eA af)).canLay0 && ((py (eDd dd)).canLay0 && (true && true)))) = true
    rw [en_rng.lay, a.2.1, d.2.1]
    rfl
  · show max ((py (eR ah)).depth) (max ((py (eA af)).depth) (max ((py (eDd dd)).depth) (max 0 0))) + 1 ≤ 2
    have := en_rng.dep ah
    have := a.2.2
    have := d.2.2
    omega
theorem okRows : ∀ rows : List Row, isPyL (rows.map eRow) = true ∧ PyData.canLayAll0 (pyL (rows.map eRow)) = true ∧ PyData.depthAll (pyL (rows.map eRow)) ≤ 2
  | [] => ⟨rfl, rfl, Nat.zero_le _⟩
  | r :: rows => by
    have a := okRow r
    have b := okRows rows
    refine ⟨?_, ?_, ?_⟩
    · show (isPy (eRow r) && isPyL (rows.map eRow)) = true
      rw [a.1, b.1]; rfl
    · show ((py (eRow r)).canLay0 && PyData.canLayAll0 (pyL (rows.map eRow))) = true
      rw [a.2.1, b.2.1]; rfl
    · show max ((py (eRow r)).depth) (PyData.depthAll (pyL (rows.map eRow))) ≤ 2
      omega
theorem ne_St (rows : List Row) : gNe (eSt rows) (.tup []) = some (.bl (decide (rows ≠ []))) := by
  have o : okPy (eSt rows) = true := by
    have b := okRows rows
    show (isPyL (rows.map eRow) && (PyData.canLayAll0 (pyL (rows.map eRow)) && decide (PyData.depthAll (pyL (rows.map eRow)) + 1 ≤ 64))) = true
    rw [b.1, b.2.1, decide_eq_true (by omega)]
    rfl
  have h : gNe (eSt rows) (.tup []) = if okPy (eSt rows) && okPy (.tup []) then some (.bl (!PyData.eqv (py (eSt rows)) (py (.tup [])))) else none := rfl
  rw [h, o]
  have o2 : okPy (.tup []) = true := by decide
  rw [o2]
  cases rows with
  | nil => rfl
  | cons r rows => rfl
theorem sl_St_to (rows : List Row) (k : Nat) : gSl none (some (k : Int)) (eSt rows) = some (eSt (rows.take k)) := by
  show some (D.tup (cutD _ _ _)) = _
  rw [cutD_to, ← List.map_take]
  rfl
theorem sl_St_from (rows : List Row) (k : Nat) : gSl (some (k : Int)) none (eSt rows) = some (eSt (rows.drop k)) := by
  show some (D.tup (cutD _ _ _)) = _
  rw [cutD_from, ← List.map_drop]
  rfl
theorem add_St (a b : List Row) (h : a.length + b.length ≤ 1000) : gAdd (eSt a) (eSt b) = some (eSt (a ++ b)) := by
  show gAdd (.tup (a.map eRow)) (.tup (b.map eRow)) = _
  rw [add_tup (by rw [List.length_map, List.length_map]; exact h), ← List.map_append]
  rfl
theorem one_St (r : Row) : D.tup [eRow r] = eSt [r] := rfl
theorem p_varied {R : Rcv} (G : Good R) {l : List D} (h : SPr l) : ∃ (R' : Rcv) (l' : List D), Good R' ∧ F_law_varied l [eRc R] = some (eRc R', l') ∧ SPr l' := by
  have hp := G.pos
  have hle := G.le
  obtain ⟨st, l1, e1, hst, s1⟩ := p_dip h (n := (R.length : Int)) (by omega) (by omega)
  have hst' : st < R.length := by omega
  have hrows : R[st]? = some R[st] := List.getElem?_eq_getElem hst'
  have h6 := G.few _ (List.getElem_mem hst')
  have hok := G.row _ (List.getElem_mem hst')
  have i1 := ix_Rc hrows
  generalize R[st] = rows at hrows h6 hok i1
  obtain ⟨w, l2, e2, hw, s2⟩ := p_dip s1 (n := 4) (by decide) (by decide)
  obtain ⟨sp, l3, e3, hsp, s3⟩ := p_dip s2 (n := (rows.length : Int) + 1) (by omega) (by omega)
  have q1 : (sSet 2 (dCS 0 2 F_law_dip (aCons (dCb gLen (aCons (dV 1) aNil)) aNil))) [some (.lst l), some (eRc R), none, none, none, none] = some (.nx [some (.lst l1), some (eRc R), some (.int (st : Nat)), none, none, none]) := by simp [len_Rc, e1]
  have q2 : (sPar 3 4 (aCons (dOp gIx (dV 1) (dV 2)) (aCons (dCS 0 2 F_law_dip (aCons (dC (.int 4)) aNil)) aNil))) [some (.lst l1), some (eRc R), some (.int (st : Nat)), none, none, none] = some (.nx [some (.lst l2), some (eRc R), some (.int (st : Nat)), some (eSt rows), some (.int (w : Nat)), none]) := by simp [i1, e2]
  have q3 : (sSet 5 (dCS 0 2 F_law_dip (aCons (dOp gAdd (dCb gLen (aCons (dV 3) aNil)) (dC (.int 1))) aNil))) [some (.lst l2), some (eRc R), some (.int (st : Nat)), some (eSt rows), some (.int (w : Nat)), none] = some (.nx [some (.lst l3), some (eRc R), some (.int (st : Nat)), some (eSt rows), some (.int (w : Nat)), some (.int (sp : Nat))]) := by simp [len_St, e3]
  have ne := ne_St rows
  have q4 : ∃ (rows' : List Row) (l4 : List D) (x5 : Option D), rows'.length ≤ 6 ∧ (∀ r ∈ rows', RowOk R.length r) ∧ SPr l4 ∧
      (sIf (bAnd (dT (dOp gEq (dV 4) (dC (.int 0)))) (dT (dOp gNe (dV 3) (dTup aNil)))) (sSeq (sSet 5 (dCb gMin (aCons (dV 5) (aCons (dOp gSub (dCb gLen (aCons (dV 3) aNil)) (dC (.int 1))) aNil))))
    (sSet 3 (dOp gAdd (dSl (dV 3) oN (oS (dV 5))) (dSl (dV 3) (oS (dOp gAdd (dV 5) (dC (.int 1)))) oN)))) (sIf (bAnd (dT (dOp gEq (dV 4) (dC (.int 1)))) (dT (dOp gNe (dV 3) (dTup aNil)))) (sSeq (sSet 5 (dCb gMin (aCons (dV 5) (aCons (dOp gSub (dCb gLen (aCons (dV 3) aNil)) (dC (.int 1))) aNil))))
    (sSet 3 (dOp gAdd (dOp gAdd (dSl (dV 3) oN (oS (dV 5))) (dTup (aCons (dCS 0 2 F_law_row (aCons (dCb gLen (aCons (dV 1) aNil)) aNil)) aNil))) (dSl (dV 3) (oS (dOp gAdd (dV 5) (dC (.int 1)))) oN)))) (sIf (dT (dOp gLt (dCb gLen (aCons (dV 3) aNil)) (dC (.int 6)))) (sSet 3 (dOp gAdd (dOp gAdd (dSl (dV 3) oN (oS (dV 5))) (dTup (aCons (dCS 0 2 F_law_row (aCons (dCb gLen (aCons (dV 1) aNil)) aNil)) aNil))) (dSl (dV 3) (oS (dV 5)) oN))) sNil)))
        [some (.lst l3), some (eRc R), some (.int (st : Nat)), some (eSt rows), some (.int (w : Nat)), some (.int (sp : Nat))] = some (.nx [some (.lst l4), some (eRc R), some (.int (st : Nat)), some (eSt rows'), some (.int (w : Nat)), x5]) := by
    -- the spot, cut to the rows
    have hm : ∃ m : Nat, (if ((rows.length : Int) - 1 < (sp : Int)) then (rows.length : Int) - 1 else (sp : Int)) = (if rows = [] then -1 else (m : Int)) ∧ (rows ≠ [] → m < rows.length) := by
      by_cases hn : rows = []
      · subst hn
        exact ⟨0, by simp; omega, fun z => absurd rfl z⟩
      · have hpos : 0 < rows.length := List.length_pos_iff.mpr hn
        by_cases hh : (rows.length : Int) - 1 < (sp : Int)
        · exact ⟨rows.length - 1, by rw [if_pos hh, if_neg hn]; omega, fun _ => by omega⟩
        · exact ⟨sp, by rw [if_neg hh, if_neg hn], fun _ => by omega⟩
    obtain ⟨m, hm1, hm2⟩ := hm
    have gm : gMin [.int (sp : Nat), .int ((rows.length : Int) - 1)] = some (.int (if rows = [] then -1 else (m : Int))) := by rw [o_gMin, hm1]
    have em1 : ((m : Int) + 1) = ((m + 1 : Nat) : Int) := by omega
    by_cases hn : rows = []
    · -- nothing to drop
      subst hn
      have ne' : gNe (eSt []) (.tup []) = some (.bl false) := rfl
      obtain ⟨row, l4, hrow, e4, s4⟩ := p_row s3 (n := R.length) (by omega) (by omega)
      have lt : gLt (.int 0) (.int 6) = some (.bl true) := rfl
      refine ⟨[row], l4, some (.int (sp : Nat)), by simp, fun r hr => by simp at hr; rw [hr]; exact hrow, s4, ?_⟩
      have t0 := sl_St_to [] sp
      have f0 := sl_St_from [] sp
      have a0 := add_St [] [row] (by simp)
      have a1 := add_St ([] ++ [row]) [] (by simp)
      simp at t0 f0 a0 a1
      by_cases w0 : (w : Int) = 0
      · simp [w0, ne', len_St, len_Rc, e4, t0, f0, one_St, a0, a1]
      · by_cases w1 : (w : Int) = 1
        · simp [w1, ne', len_St, len_Rc, e4, t0, f0, one_St, a0, a1]
        · have w0n : ¬ w = 0 := fun z => w0 (by omega)
          have w1n : ¬ w = 1 := fun z => w1 (by omega)
          simp [w0, w1, w0n, w1n, ne', len_St, len_Rc, e4, t0, f0, one_St, a0, a1]
    · have ml := hm2 hn
      rw [if_neg hn] at gm
      have ne' : gNe (eSt rows) (.tup []) = some (.bl true) := by rw [ne, decide_eq_true hn]
      have t1 := sl_St_to rows m
      have f1 : gSl (some ((m : Int) + 1)) none (eSt rows) = some (eSt (rows.drop (m + 1))) := by rw [em1]; exact sl_St_from rows (m + 1)
      by_cases w0 : (w : Int) = 0
      · refine ⟨rows.take m ++ rows.drop (m + 1), l3, some (.int (m : Nat)), by rw [List.length_append, List.length_take, List.length_drop]; omega, fun r hr => ?_, s3, ?_⟩
        · rcases List.mem_append.mp hr with z | z
          · exact hok r (List.mem_of_mem_take z)
          · exact hok r (List.mem_of_mem_drop z)
        · have a1 := add_St (rows.take m) (rows.drop (m + 1)) (by rw [List.length_take, List.length_drop]; omega)
          simp [w0, ne', len_St, gm, -o_gMin, t1, f1, a1]
      · have w0n : ¬ w = 0 := fun z => w0 (by omega)
        obtain ⟨row, l4, hrow, e4, s4⟩ := p_row s3 (n := R.length) (by omega) (by omega)
        by_cases w1 : (w : Int) = 1
        · refine ⟨rows.take m ++ [row] ++ rows.drop (m + 1), l4, some (.int (m : Nat)), by rw [List.length_append, List.length_append, List.length_take, List.length_drop]; simp only [List.length_cons, List.length_nil]; omega, fun r hr => ?_, s4, ?_⟩
          · rcases List.mem_append.mp hr with z | z
            · rcases List.mem_append.mp z with z | z
              · exact hok r (List.mem_of_mem_take z)
              · simp at z; rw [z]; exact hrow
            · exact hok r (List.mem_of_mem_drop z)
          · have a1 := add_St (rows.take m) [row] (by rw [List.length_take]; simp only [List.length_cons, List.length_nil]; omega)
            have a2 := add_St (rows.take m ++ [row]) (rows.drop (m + 1)) (by rw [List.length_append, List.length_take, List.length_drop]; simp only [List.length_cons, List.length_nil]; omega)
            simp [w1, ne', len_St, len_Rc, gm, -o_gMin, t1, f1, e4, one_St, a1]
            simp at a2
            simp [a2]
        · have w1n : ¬ w = 1 := fun z => w1 (by omega)
          by_cases hl : (rows.length : Int) < 6
          · have t2 := sl_St_to rows sp
            have f2 := sl_St_from rows sp
            refine ⟨rows.take sp ++ [row] ++ rows.drop sp, l4, some (.int (sp : Nat)), by rw [List.length_append, List.length_append, List.length_take, List.length_drop]; simp only [List.length_cons, List.length_nil]; omega, fun r hr => ?_, s4, ?_⟩
            · rcases List.mem_append.mp hr with z | z
              · rcases List.mem_append.mp z with z | z
                · exact hok r (List.mem_of_mem_take z)
                · simp at z; rw [z]; exact hrow
              · exact hok r (List.mem_of_mem_drop z)
            · have a1 := add_St (rows.take sp) [row] (by rw [List.length_take]; simp only [List.length_cons, List.length_nil]; omega)
              have a2 := add_St (rows.take sp ++ [row]) (rows.drop sp) (by rw [List.length_append, List.length_take, List.length_drop]; simp only [List.length_cons, List.length_nil]; omega)
              simp [w0, w1, w0n, w1n, hl, len_St, len_Rc, t2, f2, e4, one_St, a1]
              simp at a2
              simp [a2]
          · refine ⟨rows, l3, some (.int (sp : Nat)), h6, hok, s3, ?_⟩
            simp [w0, w1, w0n, w1n, hl, len_St]
  obtain ⟨rows', l4, x5, h6', hok', s4, q4⟩ := q4
  have pp := p_put (R := R) hle hst' (rows' := rows') (ρ := [some (.lst l4), some (eRc R), some (.int (st : Nat)), some (eSt rows'), some (.int (w : Nat)), x5]) (ρ' := [some (.lst l4), some (eRc R), some (.int (st : Nat)), some (eSt rows'), some (.int (w : Nat)), x5]) 1 2 (fx := dV 3) rfl rfl rfl rfl rfl
  have es : S_law_varied [some (.lst l), some (eRc R), none, none, none, none] = _ := (seq_nx q1).trans ((seq_nx q2).trans ((seq_nx q3).trans (seq_nx q4)))
  have e0 : F_law_varied l [eRc R] = match S_law_varied [some (.lst l), some (eRc R), none, none, none, none] with
    | some (.rt d ρ) => match (ρ : List (Option D))[0]? with
      | some (some (D.lst l')) => some (d, l')
      | _ => none
    | _ => none := rfl
  refine ⟨R.set st rows', l4, G.put hst' h6' hok', ?_, s4⟩
  rw [e0, es, e_sRet, pp]
  rfl
end DL
end
section
set_option Elab.async false
set_option linter.all false
set_option maxRecDepth 100000
set_option maxHeartbeats 4000000
set_option autoImplicit false
/-! The plain law: receivers that are changed: swapped; a state twice. -/
namespace DL
open PySem PySem.Spec
open PyProof.Rows hiding St
open L2
/-! ### rows that are led elsewhere -/
inductive All2 {α β : Type} (rel : α → β → Prop) : List α → List β → Prop
  | nil : All2 rel [] []
  | cons {x : α} {y : β} {xs : List α} {ys : List β} (h : rel x y) (hs : All2 rel xs ys) : All2 rel (x :: xs) (y :: ys)
structure Led (rel : Nat → Nat → Prop) (r r' : Row) : Prop where
  ah : r'.ahead = r.ahead
  af : r'.after = r.after
  dd : r'.deed = r.deed
  bh : rel r.behind r'.behind
theorem Led.counts {rel : Nat → Nat → Prop} {r r' : Row} (h : Led rel r r') (g : Option Int) (s : Int) : counts r' g s = counts r g s := by
  unfold DL.counts
  rw [h.ah, h.af]
theorem led_find {rel : Nat → Nat → Prop} {rows rows' : List Row} (h : All2 (Led rel) rows rows') (g : Option Int) (s : Int) :
    (rows.find? (fun row => counts row g s) = none ∧ rows'.find? (fun row => counts row g s) = none) ∨ ∃ r r', rows.find? (fun row => counts row g s) = some r ∧ rows'.find? (fun row => counts row g s) = some r' ∧ Led rel r r' := by
  induction h with
  | nil => exact .inl ⟨rfl, rfl⟩
  | cons h hs ih =>
    rename_i r r' rs rs'
    rw [List.find?_cons, List.find?_cons, h.counts]
    cases c : counts r g s with
    | true => exact .inr ⟨r, r', rfl, rfl, h⟩
    | false => exact ih
/-- states that stand for one another -/
theorem alike_led {A B : Rcv} {rising : Bool} (GA : Good A) (rel : Nat → Nat → Prop) (h0 : rel 0 0) (hr : ∀ s s' rows, rel s s' → A[s]? = some rows → ∃ rows', B[s']? = some rows' ∧ All2 (Led rel) rows rows') : ¬ UN rising A B := by
  refine alike_of (fun r r' => RO A.length r ∧ rel r.1 r'.1 ∧ r.2 = r'.2) ⟨⟨GA.pos, fun g e => nomatch e⟩, h0, rfl⟩ ?_
  rintro ⟨s, g⟩ ⟨s', g'⟩ ⟨ro, hrel, hg⟩ t
  have hg' : g = g' := hg
  subst hg'
  have hs : s < A.length := ro.1
  obtain ⟨rows', e', hl⟩ := hr s s' _ hrel (List.getElem?_eq_getElem hs)
  have a := step_at (R := A) (st := s) (List.getElem?_eq_getElem hs) (s, g) t rfl
  have b := step_at (R := B) (st := s') e' (s', g) t rfl
  have hro := stepR_ok GA ro t
  rcases led_find hl g t with ⟨f1, f2⟩ | ⟨r, r', f1, f2, hled⟩
  · simp only at a b
    rw [f1] at a
    rw [f2] at b
    rw [a, b]
    exact ⟨rfl, ro, hrel, rfl⟩
  · simp only at a b
    rw [f1] at a
    rw [f2] at b
    rw [a] at hro
    rw [a, b]
    simp only at hro ⊢
    rw [hled.dd]
    cases hd : r.deed <;> rw [hd] at hro <;> exact ⟨rfl, hro, hled.bh, rfl⟩
/-! ### two states change places -/
def pi (a b k : Nat) : Nat := if k = b then a else if k = a then b else k
theorem pi_lt {a b k n : Nat} (ha : a < n) (hb : b < n) (hk : k < n) : pi a b k < n := by
  unfold pi
  split
  · exact ha
  · split
    · exact hb
    · exact hk
theorem pi_pi (a b k : Nat) : pi a b (pi a b k) = k := by
  unfold pi
  by_cases h1 : k = b
  · rw [if_pos h1]
    by_cases h2 : a = b
    · rw [if_pos h2, h1, h2]
    · rw [if_neg h2, if_pos rfl, h1]
  · rw [if_neg h1]
    by_cases h2 : k = a
    · rw [if_pos h2, if_pos rfl, h2]
    · rw [if_neg h2, if_neg h1, if_neg h2]
def ordL (n a b : Nat) : List Nat := ((List.range n).set a b).set b a
theorem ordL_at {n a b k : Nat} (ha : a < n) (hb : b < n) (hk : k < n) : (ordL n a b)[k]? = some (pi a b k) := by
  unfold ordL pi
  by_cases h1 : k = b
  · subst h1
    rw [if_pos rfl, List.getElem?_set_self (by rw [List.length_set, List.length_range]; exact hb)]
  · rw [if_neg h1, List.getElem?_set_ne (fun z => h1 z.symm)]
    by_cases h2 : k = a
    · subst h2
      rw [if_pos rfl, List.getElem?_set_self (by rw [List.length_range]; exact ha)]
    · rw [if_neg h2, List.getElem?_set_ne (fun z => h2 z.symm), List.getElem?_range hk]
theorem ordL_len (n a b : Nat) : (ordL n a b).length = n := by unfold ordL; simp
def lead (f : Nat → Nat) (r : Row) : Row := ⟨r.ahead, r.after, r.deed, f r.behind⟩
def swp (R : Rcv) (a b : Nat) : Rcv := (ordL R.length a b).map fun k => (R.getD k []).map (lead (pi a b))
theorem Good.swp {R : Rcv} (G : Good R) {a b : Nat} (ha : a < R.length) (hb : b < R.length) : Good (DL.swp R a b) := by
  have hl : (DL.swp R a b).length = R.length := by unfold DL.swp; rw [List.length_map, ordL_len]
  have mem : ∀ rows ∈ DL.swp R a b, ∃ k, k < R.length ∧ rows = (R.getD k []).map (lead (pi a b)) := by
    intro rows h
    obtain ⟨i, hi⟩ := List.getElem?_of_mem h
    have hil := (List.getElem?_eq_some_iff.mp hi).1
    unfold DL.swp at hi
    rw [List.getElem?_map, ordL_at ha hb (by omega)] at hi
    exact ⟨pi a b i, pi_lt ha hb (by omega), (Option.some.inj hi).symm⟩
  refine ⟨by rw [hl]; exact G.pos, by rw [hl]; exact G.le, fun rows h => ?_, fun rows h r hr => ?_⟩
  · obtain ⟨k, hk, rfl⟩ := mem rows h
    rw [List.length_map, List.getD_eq_getElem?_getD, List.getElem?_eq_getElem hk]
    exact G.few _ (List.getElem_mem hk)
  · obtain ⟨k, hk, rfl⟩ := mem rows h
    rw [List.getD_eq_getElem?_getD, List.getElem?_eq_getElem hk] at hr
    obtain ⟨r0, hr0, rfl⟩ := List.mem_map.mp hr
    have q := G.row _ (List.getElem_mem hk) r0 hr0
    rw [hl]
    exact ⟨pi_lt ha hb q.bh, q.ah, q.af, q.kp⟩
theorem forall2_map {α β : Type} {rel : α → β → Prop} {f : α → β} : ∀ l : List α, (∀ x ∈ l, rel x (f x)) → All2 rel l (l.map f)
  | [], _ => .nil
  | x :: l, h => .cons (h x (by simp)) (forall2_map l fun y hy => h y (by simp [hy]))
theorem swp_alike {R : Rcv} {rising : Bool} (G : Good R) {a b : Nat} (ha : a < R.length) (hb : b < R.length) (a0 : 0 < a) (b0 : 0 < b) : ¬ UN rising R (swp R a b) := by
  refine alike_led G (fun s s' => s' = pi a b s) (by unfold pi; rw [if_neg (by omega), if_neg (by omega)]) ?_
  rintro s s' rows rfl hs
  have hsl := (List.getElem?_eq_some_iff.mp hs).1
  refine ⟨rows.map (lead (pi a b)), ?_, forall2_map rows fun r _ => ⟨rfl, rfl, rfl, rfl⟩⟩
  unfold swp
  rw [List.getElem?_map, ordL_at ha hb (pi_lt ha hb hsl), pi_pi]
  show some ((R.getD s []).map _) = _
  rw [List.getD_eq_getElem?_getD, hs]
  rfl
theorem ix_Row3 (r : Row) : gIx (eRow r) (.int 3) = some (.int (r.behind : Nat)) := rfl
theorem sl_Row3 (r : Row) : gSl none (some 3) (eRow r) = some (.tup [eR r.ahead, eA r.after, eDd r.deed]) := by
  show some (D.tup (cutD _ _ _)) = _
  rw [cutD_t3]
  rfl
theorem lead_D (r : Row) (b : Nat) : gAdd (.tup [eR r.ahead, eA r.after, eDd r.deed]) (.tup [.int (b : Nat)]) = some (eRow ⟨r.ahead, r.after, r.deed, b⟩) := add_tup (by simp)
theorem dLr_ok {f : RD} {ρ ρ' : DE} {a b : Int} (h : f ρ = some (a, b, ρ')) (rg : rgOk a b = true) : dLr f ρ = some (.lst (rgD a b), ρ') := by
  rw [e_dLr, h]
  generalize rgOk = K at *
  simp [rg]
def bodySw : SD := (sApp 4 (dCb gTuple (aCons (dLc [4] [6] (lT (dOp gIx (dV 0) (dV 5))) (gN 6) bYes (dOp gAdd (dSl (dV 6) oN (oS (dC (.int 3)))) (dTup (aCons (dOp gIx (dV 3) (dOp gIx (dV 6) (dC (.int 3)))) aNil)))) aNil)))
theorem p_swapped {R : Rcv} (G : Good R) {a b : Nat} (ha : a < R.length) (hb : b < R.length) : F_law_swapped [eRc R, .int (a : Nat), .int (b : Nat)] = some (eRc (swp R a b)) := by
  have hle := G.le
  have f := sFor_nx eN (g := gN 5) (b := bodySw)
    (fun r ρ => ∃ (pre : List Nat) (x5 : Option D), ordL R.length a b = pre ++ r ∧ ρ = [some (eRc R), some (.int (a : Nat)), some (.int (b : Nat)), some (.lst ((ordL R.length a b).map eN)), some (.lst ((pre.map fun k => (R.getD k []).map (lead (pi a b))).map eSt)), x5, none]) ?_ (ordL R.length a b)
    [some (eRc R), some (.int (a : Nat)), some (.int (b : Nat)), some (.lst ((ordL R.length a b).map eN)), some (.lst []), none, none] ⟨[], none, rfl, rfl⟩
  · obtain ⟨ρ', e, pre, x5, hp, rfl⟩ := f
    rw [List.append_nil] at hp
    have q0 : (sSet 3 (dLr (r1 (dCb gLen (aCons (dV 0) aNil))))) [some (eRc R), some (.int (a : Nat)), some (.int (b : Nat)), none, none, none, none] = some (.nx [some (eRc R), some (.int (a : Nat)), some (.int (b : Nat)), some (.lst ((List.range R.length).map eN)), none, none, none]) := by
      have rg : rgOk 0 (R.length : Int) = true := rg_small (by omega) (by omega) (by omega) (by omega)
      have er : rgD 0 (R.length : Int) = (List.range R.length).map eN := by
        unfold rgD
        rw [show ((R.length : Int) - 0).toNat = R.length by omega]
        refine List.map_congr_left fun i _ => ?_
        show D.int _ = D.int _
        rw [Int.zero_add]
      have h1 : (r1 (dCb gLen (aCons (dV 0) aNil))) [some (eRc R), some (.int (a : Nat)), some (.int (b : Nat)), none, none, none, none] = some (0, (R.length : Int), [some (eRc R), some (.int (a : Nat)), some (.int (b : Nat)), none, none, none, none]) := by simp [len_Rc]
      have h2 := dLr_ok h1 rg
      rw [er] at h2
      rw [e_sSet, h2]
      rfl
    have x1 : ixN R.length (a : Int) = some a := by
      unfold ixN
      rw [if_pos (by omega), if_pos (by omega), Int.toNat_natCast]
    have x2 : ixN R.length (b : Int) = some b := by
      unfold ixN
      rw [if_pos (by omega), if_pos (by omega), Int.toNat_natCast]
    have eo : (((List.range R.length).map eN).set a (.int (b : Nat))).set b (.int (a : Nat)) = (ordL R.length a b).map eN := by
      unfold ordL
      rw [List.map_set, List.map_set]
      rfl
    have q1 : (sTg (dTup (aCons (dV 2) (aCons (dV 1) aNil))) (gT 2 (glC (gSto 3 (dV 1)) (glC (gSto 3 (dV 2)) glN)))) [some (eRc R), some (.int (a : Nat)), some (.int (b : Nat)), some (.lst ((List.range R.length).map eN)), none, none, none] = some (.nx [some (eRc R), some (.int (a : Nat)), some (.int (b : Nat)), some (.lst ((ordL R.length a b).map eN)), none, none, none]) := by
      simp [x1, x2, eo]
    have q2 : (sSet 4 (dLst aNil)) [some (eRc R), some (.int (a : Nat)), some (.int (b : Nat)), some (.lst ((ordL R.length a b).map eN)), none, none, none] = some (.nx [some (eRc R), some (.int (a : Nat)), some (.int (b : Nat)), some (.lst ((ordL R.length a b).map eN)), some (.lst []), none, none]) := by simp
    have q3 : sFor (lL (dV 3)) (gN 5) bodySw [some (eRc R), some (.int (a : Nat)), some (.int (b : Nat)), some (.lst ((ordL R.length a b).map eN)), some (.lst []), none, none] = some (.nx [some (eRc R), some (.int (a : Nat)), some (.int (b : Nat)), some (.lst ((ordL R.length a b).map eN)), some (.lst ((pre.map fun k => (R.getD k []).map (lead (pi a b))).map eSt)), x5, none]) := by
      rw [e_sFor, show lL (dV 3) [some (eRc R), some (.int (a : Nat)), some (.int (b : Nat)), some (.lst ((ordL R.length a b).map eN)), some (.lst []), none, none] = some ((ordL R.length a b).map eN, [some (eRc R), some (.int (a : Nat)), some (.int (b : Nat)), some (.lst ((ordL R.length a b).map eN)), some (.lst []), none, none]) from rfl, Option.bind_some, e]
    unfold bodySw at q3
    have es : S_law_swapped [some (eRc R), some (.int (a : Nat)), some (.int (b : Nat)), none, none, none, none] = _ := (seq_nx q0).trans ((seq_nx q1).trans ((seq_nx q2).trans (seq_nx q3)))
    have hst : startD 7 [eRc R, .int (a : Nat), .int (b : Nat)] = [some (eRc R), some (.int (a : Nat)), some (.int (b : Nat)), none, none, none, none] := rfl
    have fin : D.tup ((pre.map fun k => (R.getD k []).map (lead (pi a b))).map eSt) = eRc (swp R a b) := by
      unfold eRc swp
      rw [hp]
    rw [show F_law_swapped = runP 7 S_law_swapped from rfl, e_runP, hst, es]
    simp only [e_sRet, e_dCb, e_aCons, e_aNil, e_dV, List.getElem?_cons_succ, List.getElem?_cons_zero, Option.bind_some, Option.map_some, o_gTuple, fin]
  · rintro k r ρ ⟨pre, x5, hp, rfl⟩
    have hkm : k ∈ ordL R.length a b := by rw [hp]; simp
    have hk : k < R.length := by
      obtain ⟨i, hi⟩ := List.getElem?_of_mem hkm
      have hil := (List.getElem?_eq_some_iff.mp hi).1
      rw [ordL_len] at hil
      rw [ordL_at ha hb hil] at hi
      have := Option.some.inj hi
      rw [← this]
      exact pi_lt ha hb hil
    have hrows : R[k]? = some R[k] := List.getElem?_eq_getElem hk
    have i1 := ix_Rc hrows
    have gd : R.getD k [] = R[k] := by rw [List.getD_eq_getElem?_getD, hrows]; rfl
    have h6 := G.few _ (List.getElem_mem hk)
    have hok := G.row _ (List.getElem_mem hk)
    have hpl : pre.length ≤ 4 := by
      have := congrArg List.length hp
      rw [ordL_len, List.length_append] at this
      omega
    have c : ∀ X : Option D, lcL [6] (gN 6) bYes (dOp gAdd (dSl (dV 6) oN (oS (dC (.int 3)))) (dTup (aCons (dOp gIx (dV 3) (dOp gIx (dV 6) (dC (.int 3)))) aNil))) (R[k].map eRow) [some (eRc R), some (.int (a : Nat)), some (.int (b : Nat)), some (.lst ((ordL R.length a b).map eN)), X, some (eN k), none] =
        some (R[k].map fun r => eRow (lead (pi a b) r), [some (eRc R), some (.int (a : Nat)), some (.int (b : Nat)), some (.lst ((ordL R.length a b).map eN)), X, some (eN k), none]) := fun X => by
      refine lc_all eRow (fun r => eRow (lead (pi a b) r)) R[k] fun r hr => ⟨[some (eRc R), some (.int (a : Nat)), some (.int (b : Nat)), some (.lst ((ordL R.length a b).map eN)), X, some (eN k), some (eRow r)], by simp, ?_, rfl⟩
      have ho : atI ((ordL R.length a b).map eN) (r.behind : Int) = some (.int ((pi a b r.behind : Nat) : Int)) := by
        rw [atI_nat, List.getElem?_map, ordL_at ha hb (hok r hr).bh]
        rfl
      simp only [e_dOp, e_dSl, e_dV, e_oN, e_oS, e_dC, e_dTup, e_aCons, e_aNil, List.getElem?_cons_succ, List.getElem?_cons_zero, Option.bind_some, sl_Row3, Option.map_some, ix_Row3, o_gIx_l, ho, List.length_cons, List.length_nil, lead_D]
      rfl
    have szr : (R[k].length < sizeLine) = True := eq_true (sz' _ (by omega))
    have szp : (pre.length < sizeLine) = True := eq_true (sz' _ (by omega))
    have eik : gIx (eRc R) (eN k) = some (eSt R[k]) := i1
    refine ⟨[some (eRc R), some (.int (a : Nat)), some (.int (b : Nat)), some (.lst ((ordL R.length a b).map eN)), some (.lst ((pre.map fun k => (R.getD k []).map (lead (pi a b))).map eSt)), some (eN k), none],
      [some (eRc R), some (.int (a : Nat)), some (.int (b : Nat)), some (.lst ((ordL R.length a b).map eN)), some (.lst (((pre ++ [k]).map fun k => (R.getD k []).map (lead (pi a b))).map eSt)), some (eN k), none], by simp, ?_, pre ++ [k], _, by simp [hp], rfl⟩
    have el : lT (dOp gIx (dV 0) (dV 5)) [some (eRc R), some (.int (a : Nat)), some (.int (b : Nat)), some (.lst ((ordL R.length a b).map eN)), some (.lst ((pre.map fun k => (R.getD k []).map (lead (pi a b))).map eSt)), some (eN k), none] = some (R[k].map eRow, [some (eRc R), some (.int (a : Nat)), some (.int (b : Nat)), some (.lst ((ordL R.length a b).map eN)), some (.lst ((pre.map fun k => (R.getD k []).map (lead (pi a b))).map eSt)), some (eN k), none]) := by
      simp only [e_lT, e_dOp, e_dV, List.getElem?_cons_succ, List.getElem?_cons_zero, Option.bind_some, eik, Option.map_some]
      rfl
    have ed : dLc [4] [6] (lT (dOp gIx (dV 0) (dV 5))) (gN 6) bYes (dOp gAdd (dSl (dV 6) oN (oS (dC (.int 3)))) (dTup (aCons (dOp gIx (dV 3) (dOp gIx (dV 6) (dC (.int 3)))) aNil))) [some (eRc R), some (.int (a : Nat)), some (.int (b : Nat)), some (.lst ((ordL R.length a b).map eN)), some (.lst ((pre.map fun k => (R.getD k []).map (lead (pi a b))).map eSt)), some (eN k), none] =
        some (.lst (R[k].map fun r => eRow (lead (pi a b) r)), [some (eRc R), some (.int (a : Nat)), some (.int (b : Nat)), some (.lst ((ordL R.length a b).map eN)), some (.lst ((pre.map fun k => (R.getD k []).map (lead (pi a b))).map eSt)), some (eN k), none]) := by
      rw [e_dLc, el, Option.bind_some]
      simp only [List.length_map, szr, if_true, wipeD, List.set_cons_succ, List.set_cons_zero, c, Option.map_some]
      rfl
    have es : eSt ((R.getD k []).map (lead (pi a b))) = .tup (R[k].map fun r => eRow (lead (pi a b) r)) := by
      rw [gd]
      unfold eSt
      rw [List.map_map]
      rfl
    simp only [bodySw, e_sApp, List.getElem?_cons_succ, List.getElem?_cons_zero, e_dCb, e_aCons, ed, Option.bind_some, e_aNil, Option.map_some, o_gTuple, List.length_map, szp, if_true, List.set_cons_succ, List.set_cons_zero, List.map_append, List.map_cons, List.map_nil, es]
end DL
end
section
set_option Elab.async false
set_option linter.all false
set_option maxRecDepth 100000
set_option maxHeartbeats 4000000
set_option autoImplicit false
/-! The plain law: shaped, its first three ways. -/
namespace DL
open PySem PySem.Spec
open PyProof.Rows hiding St
open L2
/-- a row behind the others that counts only where another counts, or that leaves all as it is -/
theorem snoc_alike {R : Rcv} {rising : Bool} {st : Nat} {rows : List Row} (hr : R[st]? = some rows) (row : Row) (h : ∀ (g : Option Int) (s : Int), (∃ r ∈ rows, counts r g s = counts row g s) ∨ (row.deed = .leave ∧ row.behind = st)) : ¬ UN rising R (R.set st (rows ++ [row])) := by
  have hst := (List.getElem?_eq_some_iff.mp hr).1
  refine alike_of Eq rfl ?_
  rintro r r' rfl s
  have e : stepR R r s = stepR (R.set st (rows ++ [row])) r s := by
    by_cases hs : r.1 = st
    · rw [step_at hr r s hs, step_at (set_at hst _) r s hs, find_snoc]
      cases q : rows.find? (fun row => counts row r.2 s) with
      | some row' => rfl
      | none =>
        simp only
        by_cases c : counts row r.2 s = true
        · rw [if_pos c]
          rcases h r.2 s with ⟨r0, h0, e0⟩ | ⟨h1, h2⟩
          · rw [List.find?_eq_none] at q
            exact absurd (e0.trans c) (q r0 h0)
          · simp only [h1]
            obtain ⟨a, b⟩ := r
            have hs' : a = st := hs
            rw [h2, hs']
        · rw [if_neg c]
    · exact (step_set r s hs).symm
  exact ⟨by rw [e], by rw [e]⟩
theorem sl_Row_to2 (r : Row) : gSl none (some 2) (eRow r) = some (.tup [eR r.ahead, eA r.after]) := by
  show some (D.tup (cutD _ _ _)) = _
  rw [cutD_t2]
  rfl
theorem sl_Row_from3 (r : Row) : gSl (some 3) none (eRow r) = some (.tup [.int (r.behind : Nat)]) := by
  show some (D.tup (cutD _ _ _)) = _
  rw [cutD_3]
  rfl
theorem ix_Row0 (r : Row) : gIx (eRow r) (.int 0) = some (eR r.ahead) := rfl
theorem ix_Row2 (r : Row) : gIx (eRow r) (.int 2) = some (eDd r.deed) := rfl
theorem join_Row (a b : Row) : gAdd (.tup [eR a.ahead, eA a.after]) (.tup [eDd b.deed, .int (b.behind : Nat)]) = some (eRow ⟨a.ahead, a.after, b.deed, b.behind⟩) := add_tup (by simp)
theorem join_lv (a : Row) : gAdd (.tup [eR a.ahead, eA a.after]) (.tup [.str "leave"]) = some (.tup [eR a.ahead, eA a.after, .str "leave"]) := add_tup (by simp)
theorem join_lv2 (a : Row) : gAdd (.tup [eR a.ahead, eA a.after, .str "leave"]) (.tup [.int (a.behind : Nat)]) = some (eRow ⟨a.ahead, a.after, .leave, a.behind⟩) := add_tup (by simp)
theorem eq_keep (d : Deed) : gEq (eDd d) (.str "keep") = some (.bl (decide (d = .keep))) := by
  cases d
  · rw [show gEq (eDd .take) (.str "keep") = some (.bl (decide (Str.ofString "take" = Str.ofString "keep"))) from rfl]; congr 2
  · rfl
  · rw [show gEq (eDd .leave) (.str "keep") = some (.bl (decide (Str.ofString "leave" = Str.ofString "keep"))) from rfl]; congr 2
  · rw [show gEq (eDd .drop) (.str "keep") = some (.bl (decide (Str.ofString "drop" = Str.ofString "keep"))) from rfl]; congr 2
def blk0 : SD := (sSeq (sSet 5 (dOp gAdd (dSl (dOp gIx (dV 4) (dCS 0 2 F_law_dip (aCons (dCb gLen (aCons (dV 4) aNil)) aNil))) oN (oS (dC (.int 2)))) (dSl (dCS 0 2 F_law_row (aCons (dCb gLen (aCons (dV 1) aNil)) aNil)) (oS (dC (.int 2))) oN)))
    (sSeq (sSet 5 (dIf (bAnd (dT (dOp (gIn false) (dC .non) (dOp gIx (dV 5) (dC (.int 0))))) (dT (dOp gEq (dOp gIx (dV 5) (dC (.int 2))) (dC (.str "keep"))))) (dOp gAdd (dOp gAdd (dSl (dV 5) oN (oS (dC (.int 2)))) (dTup (aCons (dC (.str "leave")) aNil))) (dSl (dV 5) (oS (dC (.int 3))) oN)) (dV 5)))
    (sRet (dOp gAdd (dOp gAdd (dSl (dV 1) oN (oS (dV 3))) (dTup (aCons (dOp gAdd (dV 4) (dTup (aCons (dV 5) aNil))) aNil))) (dSl (dV 1) (oS (dOp gAdd (dV 3) (dC (.int 1)))) oN)))))
def Shp (R : Rcv) (r : Option Fl) : Prop := ∃ (R' : Rcv) (l' : List D) (ρ : DE), Good R' ∧ SPr l' ∧ (∀ rising, ¬ UN rising R R') ∧ r = some (.rt (eRc R') (some (.lst l') :: ρ))
theorem shp0 {R : Rcv} (G : Good R) {l : List D} (h : SPr l) {st : Nat} {rows : List Row} (hrows : R[st]? = some rows) (h0 : 0 < rows.length) (h6 : rows.length < 6) (w : D) : Shp R (blk0 [some (.lst l), some (eRc R), some w, some (.int (st : Nat)), some (eSt rows), none, none, none, none, none, none, none]) := by
  have hst := (List.getElem?_eq_some_iff.mp hrows).1
  have hm := List.mem_of_getElem? hrows
  have hle := G.le
  have hp := G.pos
  obtain ⟨k, l1, e1, hk, s1⟩ := p_dip h (n := (rows.length : Int)) (by omega) (by omega)
  have hk' : k < rows.length := by omega
  obtain ⟨row, l2, hrow, e2, s2⟩ := p_row s1 (n := R.length) (by omega) (by omega)
  have i1 := ix_St (List.getElem?_eq_getElem hk')
  have q1 : (sSet 5 (dOp gAdd (dSl (dOp gIx (dV 4) (dCS 0 2 F_law_dip (aCons (dCb gLen (aCons (dV 4) aNil)) aNil))) oN (oS (dC (.int 2)))) (dSl (dCS 0 2 F_law_row (aCons (dCb gLen (aCons (dV 1) aNil)) aNil)) (oS (dC (.int 2))) oN))) [some (.lst l), some (eRc R), some w, some (.int (st : Nat)), some (eSt rows), none, none, none, none, none, none, none] =
      some (.nx [some (.lst l2), some (eRc R), some w, some (.int (st : Nat)), some (eSt rows), some (eRow ⟨rows[k].ahead, rows[k].after, row.deed, row.behind⟩), none, none, none, none, none, none]) := by
    simp [-o_gAdd_t, len_St, len_Rc, e1, i1, sl_Row_to2, e2, join_Row]
  have rk := G.row rows hm rows[k] (List.getElem_mem hk')
  -- the deed
  have q2 : ∃ dd : Deed, (dd = .keep → ∃ a b, rows[k].ahead = (some a, some b)) ∧ (sSet 5 (dIf (bAnd (dT (dOp (gIn false) (dC .non) (dOp gIx (dV 5) (dC (.int 0))))) (dT (dOp gEq (dOp gIx (dV 5) (dC (.int 2))) (dC (.str "keep"))))) (dOp gAdd (dOp gAdd (dSl (dV 5) oN (oS (dC (.int 2)))) (dTup (aCons (dC (.str "leave")) aNil))) (dSl (dV 5) (oS (dC (.int 3))) oN)) (dV 5))) [some (.lst l2), some (eRc R), some w, some (.int (st : Nat)), some (eSt rows), some (eRow ⟨rows[k].ahead, rows[k].after, row.deed, row.behind⟩), none, none, none, none, none, none] =
      some (.nx [some (.lst l2), some (eRc R), some w, some (.int (st : Nat)), some (eSt rows), some (eRow ⟨rows[k].ahead, rows[k].after, dd, row.behind⟩), none, none, none, none, none, none]) := by
    have hin := in_range rows[k].ahead
    have hkp := eq_keep row.deed
    by_cases hn : rows[k].ahead.1 = none ∨ rows[k].ahead.2 = none
    · rw [decide_eq_true hn] at hin
      by_cases hd : row.deed = .keep
      · rw [decide_eq_true hd] at hkp
        refine ⟨.leave, fun z => (nomatch z), ?_⟩
        have j1 := join_lv ⟨rows[k].ahead, rows[k].after, row.deed, row.behind⟩
        have j2 := join_lv2 ⟨rows[k].ahead, rows[k].after, row.deed, row.behind⟩
        simp only at j1 j2
        simp [-o_gAdd_t, ix_Row0, ix_Row2, hin, hkp, sl_Row_to2, sl_Row_from3, j1, j2]
      · rw [decide_eq_false hd] at hkp
        exact ⟨row.deed, fun z => absurd z hd, by simp [ix_Row0, ix_Row2, hin, hkp]⟩
    · rw [decide_eq_false hn] at hin
      refine ⟨row.deed, fun _ => ?_, by simp [ix_Row0, ix_Row2, hin]⟩
      cases ha : rows[k].ahead with
      | mk p q =>
        rw [ha] at hn
        cases p with
        | none => exact absurd (.inl rfl) hn
        | some p =>
          cases q with
          | none => exact absurd (.inr rfl) hn
          | some q => exact ⟨p, q, rfl⟩
  obtain ⟨dd, hdd, q2⟩ := q2
  have ar := add_row rows ⟨rows[k].ahead, rows[k].after, dd, row.behind⟩ (by omega)
  have pp := p_put (R := R) hle hst (rows' := rows ++ [⟨rows[k].ahead, rows[k].after, dd, row.behind⟩]) (ρ := [some (.lst l2), some (eRc R), some w, some (.int (st : Nat)), some (eSt rows), some (eRow ⟨rows[k].ahead, rows[k].after, dd, row.behind⟩), none, none, none, none, none, none]) (ρ' := [some (.lst l2), some (eRc R), some w, some (.int (st : Nat)), some (eSt rows), some (eRow ⟨rows[k].ahead, rows[k].after, dd, row.behind⟩), none, none, none, none, none, none]) 1 3 (fx := dOp gAdd (dV 4) (dTup (aCons (dV 5) aNil))) rfl rfl (by simp [ar]) rfl rfl
  refine ⟨R.set st (rows ++ [⟨rows[k].ahead, rows[k].after, dd, row.behind⟩]), l2, [some (eRc R), some w, some (.int (st : Nat)), some (eSt rows), some (eRow ⟨rows[k].ahead, rows[k].after, dd, row.behind⟩), none, none, none, none, none, none], G.put hst (by rw [List.length_append]; simp only [List.length_cons, List.length_nil]; omega) ?_, s2, fun rising => snoc_alike hrows _ fun g s => .inl ⟨rows[k], List.getElem_mem hk', rfl⟩, ?_⟩
  · intro r hr
    rcases List.mem_append.mp hr with z | z
    · exact G.row rows hm r z
    · simp at z
      subst z
      exact ⟨hrow.bh, rk.ah, rk.af, hdd⟩
  · unfold blk0
    rw [seq_nx q1, seq_nx q2, e_sRet, pp]
    rfl
def blk1 : SD := (sRet (dOp gAdd (dOp gAdd (dSl (dV 1) oN (oS (dV 3))) (dTup (aCons (dOp gAdd (dV 4) (dTup (aCons (dTup (aCons (dTup (aCons (dC .non) (aCons (dC .non) aNil))) (aCons (dC .non) (aCons (dC (.str "leave")) (aCons (dV 3) aNil))))) aNil))) aNil))) (dSl (dV 1) (oS (dOp gAdd (dV 3) (dC (.int 1)))) oN)))
theorem shp1 {R : Rcv} (G : Good R) {l : List D} (h : SPr l) {st : Nat} {rows : List Row} (hrows : R[st]? = some rows) (h6 : rows.length < 6) (w : D) : Shp R (blk1 [some (.lst l), some (eRc R), some w, some (.int (st : Nat)), some (eSt rows), none, none, none, none, none, none, none]) := by
  have hst := (List.getElem?_eq_some_iff.mp hrows).1
  have hm := List.mem_of_getElem? hrows
  have ar := add_row rows ⟨(none, none), none, .leave, st⟩ (by omega)
  have er : D.tup [.tup [.non, .non], .non, .str "leave", .int (st : Nat)] = eRow ⟨(none, none), none, .leave, st⟩ := rfl
  have pp := p_put (R := R) G.le hst (rows' := rows ++ [⟨(none, none), none, .leave, st⟩]) (ρ := [some (.lst l), some (eRc R), some w, some (.int (st : Nat)), some (eSt rows), none, none, none, none, none, none, none]) (ρ' := [some (.lst l), some (eRc R), some w, some (.int (st : Nat)), some (eSt rows), none, none, none, none, none, none, none]) 1 3
    (fx := dOp gAdd (dV 4) (dTup (aCons (dTup (aCons (dTup (aCons (dC .non) (aCons (dC .non) aNil))) (aCons (dC .non) (aCons (dC (.str "leave")) (aCons (dV 3) aNil))))) aNil))) rfl rfl (by simp [er, ar]) rfl rfl
  refine ⟨R.set st (rows ++ [⟨(none, none), none, .leave, st⟩]), l, [some (eRc R), some w, some (.int (st : Nat)), some (eSt rows), none, none, none, none, none, none, none], G.put hst (by rw [List.length_append]; simp only [List.length_cons, List.length_nil]; omega) ?_, h, fun rising => snoc_alike hrows _ fun g s => .inr ⟨rfl, rfl⟩, ?_⟩
  · intro r hr
    rcases List.mem_append.mp hr with z | z
    · exact G.row rows hm r z
    · simp at z
      subst z
      exact ⟨hst, rng_nn, fun a e => (nomatch e), fun z => (nomatch z)⟩
  · unfold blk1
    rw [e_sRet, pp]
    rfl
theorem p_swapped' {R : Rcv} (G : Good R) {a b : Nat} {x y : Int} (ha : a < R.length) (hb : b < R.length) (hx : x = (a : Nat)) (hy : y = (b : Nat)) : F_law_swapped [eRc R, .int x, .int y] = some (eRc (swp R a b)) := by
  subst hx
  subst hy
  exact p_swapped G ha hb
def blk2 (FS : List D → Option D) : SD := (sSeq (sSet 6 (dOp gAdd (dC (.int 1)) (dCS 0 2 F_law_dip (aCons (dOp gSub (dCb gLen (aCons (dV 1) aNil)) (dC (.int 1))) aNil))))
    (sRet (dCal 3 FS (aCons (dV 1) (aCons (dV 6) (aCons (dOp gAdd (dC (.int 1)) (dCS 0 2 F_law_dip (aCons (dOp gSub (dCb gLen (aCons (dV 1) aNil)) (dC (.int 1))) aNil))) aNil))))))
theorem blk2_ok (FS : List D → Option D) {R : Rcv} {l l1 l2 : List D} {st a b : Nat} {w x d : D} (e1 : F_law_dip l [.int ((R.length : Int) - 1)] = some (.int (a : Nat), l1)) (e2 : F_law_dip l1 [.int ((R.length : Int) - 1)] = some (.int (b : Nat), l2)) (sw : FS [eRc R, .int (1 + (a : Int)), .int (1 + (b : Int))] = some d) :
    blk2 FS [some (.lst l), some (eRc R), some w, some (.int (st : Nat)), some x, none, none, none, none, none, none, none] = some (.rt d [some (.lst l2), some (eRc R), some w, some (.int (st : Nat)), some x, none, some (.int (1 + (a : Int))), none, none, none, none, none]) := by
  unfold blk2
  have q1 : (sSet 6 (dOp gAdd (dC (.int 1)) (dCS 0 2 F_law_dip (aCons (dOp gSub (dCb gLen (aCons (dV 1) aNil)) (dC (.int 1))) aNil)))) [some (.lst l), some (eRc R), some w, some (.int (st : Nat)), some x, none, none, none, none, none, none, none] = some (.nx [some (.lst l1), some (eRc R), some w, some (.int (st : Nat)), some x, none, some (.int (1 + (a : Int))), none, none, none, none, none]) := by
    simp [len_Rc, e1]
  rw [seq_nx q1]
  simp [len_Rc, e2, sw]
theorem shp2 {R : Rcv} (G : Good R) {l : List D} (h : SPr l) {st : Nat} (h2 : 2 < R.length) (w x : D) : Shp R (blk2 F_law_swapped [some (.lst l), some (eRc R), some w, some (.int (st : Nat)), some x, none, none, none, none, none, none, none]) := by
  have hle := G.le
  obtain ⟨a, l1, e1, ha, s1⟩ := p_dip h (n := (R.length : Int) - 1) (by omega) (by omega)
  obtain ⟨b, l2, e2, hb, s2⟩ := p_dip s1 (n := (R.length : Int) - 1) (by omega) (by omega)
  have sw := p_swapped' G (a := 1 + a) (b := 1 + b) (x := 1 + (a : Int)) (y := 1 + (b : Int)) (by omega) (by omega) (by omega) (by omega)
  exact ⟨swp R (1 + a) (1 + b), l2, [some (eRc R), some w, some (.int (st : Nat)), some x, none, some (.int (1 + (a : Int))), none, none, none, none, none], G.swp (by omega) (by omega), s2, fun rising => swp_alike G (by omega) (by omega) (by omega) (by omega), blk2_ok F_law_swapped e1 e2 sw⟩
end DL
end
section
set_option Elab.async false
set_option linter.all false
set_option maxRecDepth 100000
set_option maxHeartbeats 4000000
set_option autoImplicit false
/-! The plain law: shaped, a state twice. -/
namespace DL
open PySem PySem.Spec
open PyProof.Rows hiding St
open L2
theorem p_led (r : Row) (b : Nat) : F_law_led [eRow r, .int (b : Nat)] = some (eRow ⟨r.ahead, r.after, r.deed, b⟩) := by
  have a := sl_Row3 r
  have c := lead_D r b
  simp [-o_gAdd_t, F_law_led, S_law_led, startD, a, c]
theorem moves_drawn (st : Nat) (B C D3 D4 D5 D6 D7 D8 D9 D11 : Option D) : ∀ (rows : List Row) (l : List D), SPr l → ∃ (ms : List Bool) (l' : List D), ms.length = rows.length ∧ (∀ (i : Nat) (r : Row), rows[i]? = some r → ms[i]? = some true → r.behind = st) ∧ SPr l' ∧
    lcL [10] (gN 10) bYes (dAnd (dOp gEq (dCS 0 2 F_law_dip (aCons (dC (.int 2)) aNil)) (dC (.int 0))) (dOp gEq (dOp gIx (dV 10) (dC (.int 3))) (dV 3))) (rows.map eRow) [some (.lst l), B, C, some (.int (st : Nat)), D4, D5, D6, D7, D8, D9, none, D11] =
      some (ms.map D.bl, [some (.lst l'), B, C, some (.int (st : Nat)), D4, D5, D6, D7, D8, D9, none, D11])
  | [], l, h => ⟨[], l, rfl, by simp, h, rfl⟩
  | r :: rows, l, h => by
    obtain ⟨v, l1, e1, hv, s1⟩ := p_dip h (n := 2) (by decide) (by decide)
    obtain ⟨ms, l2, hl, hm, s2, e2⟩ := moves_drawn st B C D3 D4 D5 D6 D7 D8 D9 D11 rows l1 s1
    have ix := ix_Row3 r
    by_cases hv0 : v = 0
    · subst hv0
      simp at e1
      refine ⟨decide (r.behind = st) :: ms, l2, by simp [hl], fun i x hx hi => ?_, s2, ?_⟩
      · cases i with
        | zero =>
          simp at hx hi
          rw [← hx]
          exact hi
        | succ i => exact hm i x (by simpa using hx) (by simpa using hi)
      · have hd : decide ((r.behind : Int) = (st : Int)) = decide (r.behind = st) := decide_eq_decide.mpr (by omega)
        rw [List.map_cons, lcL]
        simp [e1, ix, wipeD]
        rw [e2]
        simp
        omega
    · have hi : ((v : Int) = 0) = False := eq_false (by omega)
      refine ⟨false :: ms, l2, by simp [hl], fun i x hx hi => ?_, s2, ?_⟩
      · cases i with
        | zero => simp at hi
        | succ i => exact hm i x (by simpa using hx) (by simpa using hi)
      · rw [List.map_cons, lcL]
        simp [e1, hv0, wipeD]
        rw [e2]
theorem all2_of {α β : Type} {rel : α → β → Prop} : ∀ (l : List α) (m : List β), l.length = m.length → (∀ (i : Nat) (x : α) (y : β), l[i]? = some x → m[i]? = some y → rel x y) → All2 rel l m
  | [], [], _, _ => .nil
  | [], _ :: _, h, _ => by cases h
  | _ :: _, [], h, _ => by cases h
  | x :: l, y :: m, h, k => .cons (k 0 x y rfl rfl) (all2_of l m (by simpa using h) fun i a b h1 h2 => k (i + 1) a b (by simpa using h1) (by simpa using h2))
def rws (n : Nat) (rows : List Row) (ms : List Bool) : List Row := (List.range rows.length).map fun i => ⟨(rows.getD i ⟨(none, none), none, .leave, 0⟩).ahead, (rows.getD i ⟨(none, none), none, .leave, 0⟩).after, (rows.getD i ⟨(none, none), none, .leave, 0⟩).deed, if ms.getD i false then n else (rows.getD i ⟨(none, none), none, .leave, 0⟩).behind⟩
def body3 : SD := (sSeq (sSet 8 (dLc [7, 0] [10] (lT (dV 4)) (gN 10) bYes (dAnd (dOp gEq (dCS 0 2 F_law_dip (aCons (dC (.int 2)) aNil)) (dC (.int 0))) (dOp gEq (dOp gIx (dV 10) (dC (.int 3))) (dV 3)))))
    (sSeq (sSet 9 (dLc [7, 0] [11] (lR (dCb gLen (aCons (dV 4) aNil))) (gN 11) bYes (dIf (dT (dOp gIx (dV 8) (dV 11))) (dCb gLen (aCons (dV 1) aNil)) (dOp gIx (dOp gIx (dV 4) (dV 11)) (dC (.int 3))))))
    (sApp 7 (dCb gTuple (aCons (dLc [7, 0] [11] (lR (dCb gLen (aCons (dV 4) aNil))) (gN 11) bYes (dCal 2 F_law_led (aCons (dOp gIx (dV 4) (dV 11)) (aCons (dOp gIx (dV 9) (dV 11)) aNil)))) aNil)))))
theorem body3_ok {R : Rcv} {l : List D} (h : SPr l) (rows : List Row) (h6 : rows.length ≤ 6) (w : D) (st : Nat) (found : Rcv) (hf : found.length ≤ 10) (x8 x9 : Option D) : ∃ (ms : List Bool) (l' : List D) (y8 y9 : Option D), ms.length = rows.length ∧ (∀ (i : Nat) (r : Row), rows[i]? = some r → ms[i]? = some true → r.behind = st) ∧ SPr l' ∧
    body3 [some (.lst l), some (eRc R), some w, some (.int (st : Nat)), some (eSt rows), none, none, some (.lst (found.map eSt)), x8, x9, none, none] =
      some (.nx [some (.lst l'), some (eRc R), some w, some (.int (st : Nat)), some (eSt rows), none, none, some (.lst ((found ++ [rws R.length rows ms]).map eSt)), y8, y9, none, none]) := by
  obtain ⟨ms, l1, hl, hm, s1, e1⟩ := moves_drawn st (some (eRc R)) (some w) none (some (eSt rows)) none none (some (.lst (found.map eSt))) x8 x9 none rows l h
  have szr : (rows.length < sizeLine) = True := eq_true (sz' _ (by omega))
  have szf : (found.length < sizeLine) = True := eq_true (sz' _ (by omega))
  have q1 : (sSet 8 (dLc [7, 0] [10] (lT (dV 4)) (gN 10) bYes (dAnd (dOp gEq (dCS 0 2 F_law_dip (aCons (dC (.int 2)) aNil)) (dC (.int 0))) (dOp gEq (dOp gIx (dV 10) (dC (.int 3))) (dV 3))))) [some (.lst l), some (eRc R), some w, some (.int (st : Nat)), some (eSt rows), none, none, some (.lst (found.map eSt)), x8, x9, none, none] =
      some (.nx [some (.lst l1), some (eRc R), some w, some (.int (st : Nat)), some (eSt rows), none, none, some (.lst (found.map eSt)), some (.lst (ms.map D.bl)), x9, none, none]) := by
    rw [e_sSet, e_dLc, show lT (dV 4) [some (.lst l), some (eRc R), some w, some (.int (st : Nat)), some (eSt rows), none, none, some (.lst (found.map eSt)), x8, x9, none, none] = some (rows.map eRow, [some (.lst l), some (eRc R), some w, some (.int (st : Nat)), some (eSt rows), none, none, some (.lst (found.map eSt)), x8, x9, none, none]) from rfl, Option.bind_some]
    simp only [List.length_map, szr, if_true, wipeD, List.set_cons_succ, List.set_cons_zero, e1, Option.map_some]
    rfl
  have hlr : ∀ X Y : Option D, lR (dCb gLen (aCons (dV 4) aNil)) [some (.lst l1), some (eRc R), some w, some (.int (st : Nat)), some (eSt rows), none, none, some (.lst (found.map eSt)), X, Y, none, none] = some ((List.range rows.length).map fun i => D.int (i : Nat), [some (.lst l1), some (eRc R), some w, some (.int (st : Nat)), some (eSt rows), none, none, some (.lst (found.map eSt)), X, Y, none, none]) := fun X Y => lR_ok (by simp [len_St]) (by omega)
  have hD : ∀ i, i < rows.length → gIx (eSt rows) (.int (i : Nat)) = some (eRow (rows.getD i ⟨(none, none), none, .leave, 0⟩)) := fun i hi => ix_St (by rw [List.getD_eq_getElem?_getD, List.getElem?_eq_getElem hi]; rfl)
  have hM : ∀ i, i < rows.length → atI (ms.map D.bl) ((i : Nat) : Int) = some (.bl (ms.getD i false)) := fun i hi => by
    rw [atI_nat, List.getElem?_map, List.getD_eq_getElem?_getD, List.getElem?_eq_getElem (by omega)]
    rfl
  have c2 : lcL [11] (gN 11) bYes (dIf (dT (dOp gIx (dV 8) (dV 11))) (dCb gLen (aCons (dV 1) aNil)) (dOp gIx (dOp gIx (dV 4) (dV 11)) (dC (.int 3)))) ((List.range rows.length).map fun i => D.int (i : Nat)) [some (.lst l1), some (eRc R), some w, some (.int (st : Nat)), some (eSt rows), none, none, some (.lst (found.map eSt)), some (.lst (ms.map D.bl)), x9, none, none] =
      some ((List.range rows.length).map fun i => eN (if ms.getD i false then R.length else (rows.getD i ⟨(none, none), none, .leave, 0⟩).behind), [some (.lst l1), some (eRc R), some w, some (.int (st : Nat)), some (eSt rows), none, none, some (.lst (found.map eSt)), some (.lst (ms.map D.bl)), x9, none, none]) := by
    refine lc_all (fun i : Nat => D.int (i : Nat)) (fun i => eN (if ms.getD i false then R.length else (rows.getD i ⟨(none, none), none, .leave, 0⟩).behind)) (List.range rows.length) fun i hi => ⟨[some (.lst l1), some (eRc R), some w, some (.int (st : Nat)), some (eSt rows), none, none, some (.lst (found.map eSt)), some (.lst (ms.map D.bl)), x9, none, some (.int (i : Nat))], by simp, ?_, rfl⟩
    have hi' := List.mem_range.mp hi
    have a := hM i hi'
    have b := hD i hi'
    have c := ix_Row3 (rows.getD i ⟨(none, none), none, .leave, 0⟩)
    cases q : ms.getD i false with
    | true =>
      rw [q] at a
      simp only [e_dIf, e_dT, e_dOp, e_dV, List.getElem?_cons_succ, List.getElem?_cons_zero, Option.bind_some, o_gIx_l, a, Option.map_some, e_dCb, e_aCons, e_aNil, len_Rc]
      rfl
    | false =>
      rw [q] at a
      simp only [e_dIf, e_dT, e_dOp, e_dV, e_dC, List.getElem?_cons_succ, List.getElem?_cons_zero, Option.bind_some, o_gIx_l, a, Option.map_some, b, c]
      rfl
  have szg : ((List.range rows.length).length < sizeLine) = True := by rw [List.length_range]; exact szr
  have q2 : (sSet 9 (dLc [7, 0] [11] (lR (dCb gLen (aCons (dV 4) aNil))) (gN 11) bYes (dIf (dT (dOp gIx (dV 8) (dV 11))) (dCb gLen (aCons (dV 1) aNil)) (dOp gIx (dOp gIx (dV 4) (dV 11)) (dC (.int 3)))))) [some (.lst l1), some (eRc R), some w, some (.int (st : Nat)), some (eSt rows), none, none, some (.lst (found.map eSt)), some (.lst (ms.map D.bl)), x9, none, none] =
      some (.nx [some (.lst l1), some (eRc R), some w, some (.int (st : Nat)), some (eSt rows), none, none, some (.lst (found.map eSt)), some (.lst (ms.map D.bl)), some (.lst ((List.range rows.length).map fun i => eN (if ms.getD i false then R.length else (rows.getD i ⟨(none, none), none, .leave, 0⟩).behind))), none, none]) := by
    rw [e_sSet, e_dLc, hlr, Option.bind_some]
    simp only [List.length_map, szg, if_true, wipeD, List.set_cons_succ, List.set_cons_zero, c2, Option.map_some]
    rfl
  have hB : ∀ i, i < rows.length → atI ((List.range rows.length).map fun i => eN (if ms.getD i false then R.length else (rows.getD i ⟨(none, none), none, .leave, 0⟩).behind)) ((i : Nat) : Int) = some (eN (if ms.getD i false then R.length else (rows.getD i ⟨(none, none), none, .leave, 0⟩).behind)) := fun i hi => by
    rw [atI_nat, List.getElem?_map, List.getElem?_range hi]
    rfl
  have c3 : ∀ X : Option D, lcL [11] (gN 11) bYes (dCal 2 F_law_led (aCons (dOp gIx (dV 4) (dV 11)) (aCons (dOp gIx (dV 9) (dV 11)) aNil))) ((List.range rows.length).map fun i => D.int (i : Nat)) [some (.lst l1), some (eRc R), some w, some (.int (st : Nat)), some (eSt rows), none, none, some (.lst (found.map eSt)), X, some (.lst ((List.range rows.length).map fun i => eN (if ms.getD i false then R.length else (rows.getD i ⟨(none, none), none, .leave, 0⟩).behind))), none, none] =
      some ((List.range rows.length).map fun i => eRow ⟨(rows.getD i ⟨(none, none), none, .leave, 0⟩).ahead, (rows.getD i ⟨(none, none), none, .leave, 0⟩).after, (rows.getD i ⟨(none, none), none, .leave, 0⟩).deed, if ms.getD i false then R.length else (rows.getD i ⟨(none, none), none, .leave, 0⟩).behind⟩, [some (.lst l1), some (eRc R), some w, some (.int (st : Nat)), some (eSt rows), none, none, some (.lst (found.map eSt)), X, some (.lst ((List.range rows.length).map fun i => eN (if ms.getD i false then R.length else (rows.getD i ⟨(none, none), none, .leave, 0⟩).behind))), none, none]) := fun X => by
    refine lc_all (fun i : Nat => D.int (i : Nat)) (fun i => eRow ⟨(rows.getD i ⟨(none, none), none, .leave, 0⟩).ahead, (rows.getD i ⟨(none, none), none, .leave, 0⟩).after, (rows.getD i ⟨(none, none), none, .leave, 0⟩).deed, if ms.getD i false then R.length else (rows.getD i ⟨(none, none), none, .leave, 0⟩).behind⟩) (List.range rows.length) fun i hi => ⟨[some (.lst l1), some (eRc R), some w, some (.int (st : Nat)), some (eSt rows), none, none, some (.lst (found.map eSt)), X, some (.lst ((List.range rows.length).map fun i => eN (if ms.getD i false then R.length else (rows.getD i ⟨(none, none), none, .leave, 0⟩).behind))), none, some (.int (i : Nat))], by simp, ?_, rfl⟩
    have hi' := List.mem_range.mp hi
    have b := hD i hi'
    have c := hB i hi'
    have d := p_led (rows.getD i ⟨(none, none), none, .leave, 0⟩) (if ms.getD i false then R.length else (rows.getD i ⟨(none, none), none, .leave, 0⟩).behind)
    have d' : F_law_led [eRow (rows.getD i ⟨(none, none), none, .leave, 0⟩), eN (if ms.getD i false then R.length else (rows.getD i ⟨(none, none), none, .leave, 0⟩).behind)] = _ := d
    simp only [e_dCal, e_aCons, e_aNil, e_dOp, e_dV, List.getElem?_cons_succ, List.getElem?_cons_zero, Option.bind_some, b, Option.map_some, o_gIx_l, c, List.length_cons, List.length_nil, d']
    rfl
  have er : eSt (rws R.length rows ms) = .tup ((List.range rows.length).map fun i => eRow ⟨(rows.getD i ⟨(none, none), none, .leave, 0⟩).ahead, (rows.getD i ⟨(none, none), none, .leave, 0⟩).after, (rows.getD i ⟨(none, none), none, .leave, 0⟩).deed, if ms.getD i false then R.length else (rows.getD i ⟨(none, none), none, .leave, 0⟩).behind⟩) := by
    unfold eSt rws
    rw [List.map_map]
    rfl
  have q3 : (sApp 7 (dCb gTuple (aCons (dLc [7, 0] [11] (lR (dCb gLen (aCons (dV 4) aNil))) (gN 11) bYes (dCal 2 F_law_led (aCons (dOp gIx (dV 4) (dV 11)) (aCons (dOp gIx (dV 9) (dV 11)) aNil)))) aNil))) [some (.lst l1), some (eRc R), some w, some (.int (st : Nat)), some (eSt rows), none, none, some (.lst (found.map eSt)), some (.lst (ms.map D.bl)), some (.lst ((List.range rows.length).map fun i => eN (if ms.getD i false then R.length else (rows.getD i ⟨(none, none), none, .leave, 0⟩).behind))), none, none] =
      some (.nx [some (.lst l1), some (eRc R), some w, some (.int (st : Nat)), some (eSt rows), none, none, some (.lst ((found ++ [rws R.length rows ms]).map eSt)), some (.lst (ms.map D.bl)), some (.lst ((List.range rows.length).map fun i => eN (if ms.getD i false then R.length else (rows.getD i ⟨(none, none), none, .leave, 0⟩).behind))), none, none]) := by
    have e0 : ∀ {f : TD} {ρ ρ' : DE} {ds : List D}, f ρ = some (.lst ds, ρ') → (dCb gTuple (aCons f aNil)) ρ = some (.tup ds, ρ') := fun {f ρ ρ' ds} h => by
      rw [e_dCb, e_aCons, h]
      rfl
    have e1 : dLc [7, 0] [11] (lR (dCb gLen (aCons (dV 4) aNil))) (gN 11) bYes (dCal 2 F_law_led (aCons (dOp gIx (dV 4) (dV 11)) (aCons (dOp gIx (dV 9) (dV 11)) aNil))) [some (.lst l1), some (eRc R), some w, some (.int (st : Nat)), some (eSt rows), none, none, some (.lst (found.map eSt)), some (.lst (ms.map D.bl)), some (.lst ((List.range rows.length).map fun i => eN (if ms.getD i false then R.length else (rows.getD i ⟨(none, none), none, .leave, 0⟩).behind))), none, none] =
        some (.lst ((List.range rows.length).map fun i => eRow ⟨(rows.getD i ⟨(none, none), none, .leave, 0⟩).ahead, (rows.getD i ⟨(none, none), none, .leave, 0⟩).after, (rows.getD i ⟨(none, none), none, .leave, 0⟩).deed, if ms.getD i false then R.length else (rows.getD i ⟨(none, none), none, .leave, 0⟩).behind⟩), [some (.lst l1), some (eRc R), some w, some (.int (st : Nat)), some (eSt rows), none, none, some (.lst (found.map eSt)), some (.lst (ms.map D.bl)), some (.lst ((List.range rows.length).map fun i => eN (if ms.getD i false then R.length else (rows.getD i ⟨(none, none), none, .leave, 0⟩).behind))), none, none]) := by
      rw [e_dLc, hlr, Option.bind_some]
      simp only [List.length_map, szg, if_true, wipeD, List.set_cons_succ, List.set_cons_zero, c3, Option.map_some]
      rfl
    rw [e_sApp]
    simp only [List.getElem?_cons_succ, List.getElem?_cons_zero, e0 e1, Option.bind_some, List.length_map, szf, if_true, List.set_cons_succ, List.set_cons_zero, List.map_append, List.map_cons, List.map_nil, er]
  exact ⟨ms, l1, _, _, hl, hm, s1, (seq_nx q1).trans ((seq_nx q2).trans q3)⟩
end DL
end
section
set_option Elab.async false
set_option linter.all false
set_option maxRecDepth 100000
set_option maxHeartbeats 4000000
set_option autoImplicit false
/-! The plain law: shaped. -/
namespace DL
open PySem PySem.Spec
open PyProof.Rows hiding St
open L2
theorem rws_len (n : Nat) (rows : List Row) (ms : List Bool) : (rws n rows ms).length = rows.length := by unfold rws; simp
theorem rws_at (n : Nat) (rows : List Row) (ms : List Bool) {i : Nat} {r : Row} (h : rows[i]? = some r) : (rws n rows ms)[i]? = some ⟨r.ahead, r.after, r.deed, if ms.getD i false then n else r.behind⟩ := by
  have hi := (List.getElem?_eq_some_iff.mp h).1
  unfold rws
  rw [List.getElem?_map, List.getElem?_range hi]
  have e : rows.getD i ⟨(none, none), none, .leave, 0⟩ = r := by rw [List.getD_eq_getElem?_getD, h]; rfl
  simp only [Option.map_some, e]
def rel3 (n st : Nat) (s s' : Nat) : Prop := s' = s ∨ (s = st ∧ s' = n)
theorem rws_led {n st : Nat} {rows : List Row} {ms : List Bool} (hm : ∀ (i : Nat) (r : Row), rows[i]? = some r → ms[i]? = some true → r.behind = st) : All2 (Led (rel3 n st)) rows (rws n rows ms) := by
  refine all2_of rows _ (by rw [rws_len]) fun i x y hx hy => ?_
  rw [rws_at n rows ms hx] at hy
  cases hy
  refine ⟨rfl, rfl, rfl, ?_⟩
  show rel3 n st x.behind (if ms.getD i false then n else x.behind)
  cases q : ms.getD i false with
  | false => exact .inl rfl
  | true =>
    refine .inr ⟨hm i x hx ?_, rfl⟩
    rw [List.getD_eq_getElem?_getD] at q
    cases z : ms[i]? with
    | none => rw [z] at q; cases q
    | some b => rw [z] at q; cases b with
      | true => rfl
      | false => cases q
theorem all2_mem {α β : Type} {rel : α → β → Prop} {l : List α} {m : List β} (h : All2 rel l m) : l.length = m.length ∧ ∀ y ∈ m, ∃ x ∈ l, rel x y := by
  induction h with
  | nil => exact ⟨rfl, by simp⟩
  | cons h hs ih =>
    rename_i x y xs ys
    refine ⟨by simp [ih.1], fun z hz => ?_⟩
    rcases List.mem_cons.mp hz with q | q
    · exact ⟨x, by simp, by rw [q]; exact h⟩
    · obtain ⟨u, hu, e⟩ := ih.2 z q
      exact ⟨u, by simp [hu], e⟩
def blk3 : SD := (sSeq (sSet 7 (dLst aNil))
    (sSeq (sFor (lT (dOp gAdd (dV 1) (dTup (aCons (dV 4) aNil)))) (gN 4) body3)
    (sRet (dCb gTuple (aCons (dV 7) aNil)))))
theorem shp3 {R : Rcv} (G : Good R) {l : List D} (h : SPr l) {st : Nat} {rows : List Row} (hrows : R[st]? = some rows) (h4 : R.length < 4) (w : D) : Shp R (blk3 [some (.lst l), some (eRc R), some w, some (.int (st : Nat)), some (eSt rows), none, none, none, none, none, none, none]) := by
  have hst := (List.getElem?_eq_some_iff.mp hrows).1
  have hm := List.mem_of_getElem? hrows
  have hall : ∀ rs ∈ R ++ [rows], rs ∈ R := fun rs hrs => by
    rcases List.mem_append.mp hrs with z | z
    · exact z
    · simp at z; rw [z]; exact hm
  have f := sFor_nx eSt (g := gN 4) (b := body3)
    (fun r ρ => ∃ (pre : List (List Row)) (found : Rcv) (l' : List D) (x4 x8 x9 : Option D), R ++ [rows] = pre ++ r ∧ ρ = [some (.lst l'), some (eRc R), some w, some (.int (st : Nat)), x4, none, none, some (.lst (found.map eSt)), x8, x9, none, none] ∧ SPr l' ∧ All2 (All2 (Led (rel3 R.length st))) pre found)
    ?_ (R ++ [rows]) [some (.lst l), some (eRc R), some w, some (.int (st : Nat)), some (eSt rows), none, none, some (.lst []), none, none, none, none] ⟨[], [], l, _, none, none, rfl, rfl, h, .nil⟩
  · obtain ⟨ρ', e, pre, found, l', x4, x8, x9, hp, rfl, s', ha⟩ := f
    rw [List.append_nil] at hp
    subst hp
    have hlen := (all2_mem ha).1
    rw [List.length_append] at hlen
    simp only [List.length_cons, List.length_nil] at hlen
    have at_ : ∀ (i : Nat) (rs : List Row), (R ++ [rows])[i]? = some rs → ∃ rs', found[i]? = some rs' ∧ All2 (Led (rel3 R.length st)) rs rs' := by
      have gen : ∀ {l m : List (List Row)}, All2 (All2 (Led (rel3 R.length st))) l m → ∀ (i : Nat) (rs : List Row), l[i]? = some rs → ∃ rs', m[i]? = some rs' ∧ All2 (Led (rel3 R.length st)) rs rs' := by
        intro l m h
        induction h with
        | nil => intro i rs h; simp at h
        | cons h hs ih =>
          intro i rs hi
          cases i with
          | zero =>
            simp at hi
            subst hi
            exact ⟨_, rfl, h⟩
          | succ i => exact ih i rs (by simpa using hi)
      exact gen ha
    refine ⟨found, l', [some (eRc R), some w, some (.int (st : Nat)), x4, none, none, some (.lst (found.map eSt)), x8, x9, none, none], ⟨by omega, by omega, fun rs' hrs' => ?_, fun rs' hrs' r hr => ?_⟩, s', fun rising => ?_, ?_⟩
    · obtain ⟨rs, hrs, h2⟩ := (all2_mem ha).2 rs' hrs'
      rw [← (all2_mem h2).1]
      exact G.few rs (hall rs hrs)
    · obtain ⟨rs, hrs, h2⟩ := (all2_mem ha).2 rs' hrs'
      obtain ⟨r0, hr0, hl⟩ := (all2_mem h2).2 r hr
      have q := G.row rs (hall rs hrs) r0 hr0
      refine ⟨?_, by rw [hl.ah]; exact q.ah, by rw [hl.af]; exact q.af, fun z => by rw [hl.ah]; exact q.kp (by rw [← hl.dd]; exact z)⟩
      have := q.bh
      rcases hl.bh with z | ⟨_, z⟩ <;> omega
    · refine alike_led G (rel3 R.length st) (.inl rfl) fun s s' rs hrel hs => ?_
      have hsl := (List.getElem?_eq_some_iff.mp hs).1
      rcases hrel with z | ⟨z1, z2⟩
      · rw [z]
        exact at_ s rs (by rw [List.getElem?_append_left hsl]; exact hs)
      · rw [z2]
        refine at_ R.length rs ?_
        rw [List.getElem?_append_right (Nat.le_refl _), Nat.sub_self]
        rw [z1, hrows] at hs
        exact hs
    · have q1 : (sSet 7 (dLst aNil)) [some (.lst l), some (eRc R), some w, some (.int (st : Nat)), some (eSt rows), none, none, none, none, none, none, none] = some (.nx [some (.lst l), some (eRc R), some w, some (.int (st : Nat)), some (eSt rows), none, none, some (.lst []), none, none, none, none]) := by simp
      have ga : gAdd (eRc R) (.tup [eSt rows]) = some (.tup ((R ++ [rows]).map eSt)) := by
        show gAdd (.tup (R.map eSt)) (.tup [eSt rows]) = _
        rw [add_tup (by rw [List.length_map]; simp only [List.length_cons, List.length_nil]; omega), List.map_append]
        rfl
      have el : lT (dOp gAdd (dV 1) (dTup (aCons (dV 4) aNil))) [some (.lst l), some (eRc R), some w, some (.int (st : Nat)), some (eSt rows), none, none, some (.lst []), none, none, none, none] = some ((R ++ [rows]).map eSt, [some (.lst l), some (eRc R), some w, some (.int (st : Nat)), some (eSt rows), none, none, some (.lst []), none, none, none, none]) := by
        have t : (dTup (aCons (dV 4) aNil)) [some (.lst l), some (eRc R), some w, some (.int (st : Nat)), some (eSt rows), none, none, some (.lst []), none, none, none, none] = some (.tup [eSt rows], [some (.lst l), some (eRc R), some w, some (.int (st : Nat)), some (eSt rows), none, none, some (.lst []), none, none, none, none]) := rfl
        simp only [e_lT, e_dOp, e_dV, List.getElem?_cons_succ, List.getElem?_cons_zero, Option.bind_some, t, ga, Option.map_some]
      have q2 : sFor (lT (dOp gAdd (dV 1) (dTup (aCons (dV 4) aNil)))) (gN 4) body3 [some (.lst l), some (eRc R), some w, some (.int (st : Nat)), some (eSt rows), none, none, some (.lst []), none, none, none, none] = some (.nx [some (.lst l'), some (eRc R), some w, some (.int (st : Nat)), x4, none, none, some (.lst (found.map eSt)), x8, x9, none, none]) := by
        rw [e_sFor, el, Option.bind_some, e]
      unfold blk3
      rw [seq_nx q1, seq_nx q2]
      rfl
  · rintro rs r ρ ⟨pre, found, l', x4, x8, x9, hp, rfl, s', ha⟩
    have hrs : rs ∈ R := hall rs (by rw [hp]; simp)
    have hfl := (all2_mem ha).1
    have hpl : pre.length ≤ 4 := by
      have := congrArg List.length hp
      rw [List.length_append, List.length_append] at this
      simp only [List.length_cons, List.length_nil] at this
      omega
    obtain ⟨ms, l2, y8, y9, hl, hmm, s2, e⟩ := body3_ok (R := R) s' rs (G.few rs hrs) w st found (by omega) x8 x9
    refine ⟨[some (.lst l'), some (eRc R), some w, some (.int (st : Nat)), some (eSt rs), none, none, some (.lst (found.map eSt)), x8, x9, none, none], _, by simp, e, pre ++ [rs], found ++ [rws R.length rs ms], l2, _, y8, y9, by simp [hp], rfl, s2, ?_⟩
    have snoc : ∀ {l m : List (List Row)} {a b : List Row}, All2 (All2 (Led (rel3 R.length st))) l m → All2 (Led (rel3 R.length st)) a b → All2 (All2 (Led (rel3 R.length st))) (l ++ [a]) (m ++ [b]) := by
      intro l m a b h k
      induction h with
      | nil => exact .cons k .nil
      | cons h hs ih => exact .cons h ih
    exact snoc ha (rws_led hmm)
theorem p_shaped {R : Rcv} (G : Good R) {l : List D} (h : SPr l) : ∃ (R' : Rcv) (l' : List D), Good R' ∧ F_law_shaped l [eRc R] = some (eRc R', l') ∧ SPr l' ∧ ∀ rising, ¬ UN rising R R' := by
  have hp := G.pos
  have hle := G.le
  obtain ⟨w, l1, e1, hw, s1⟩ := p_dip h (n := 4) (by decide) (by decide)
  obtain ⟨st, l2, e2, hst, s2⟩ := p_dip s1 (n := (R.length : Int)) (by omega) (by omega)
  have hst' : st < R.length := by omega
  have hrows : R[st]? = some R[st] := List.getElem?_eq_getElem hst'
  have h6 := G.few _ (List.getElem_mem hst')
  have i1 := ix_Rc hrows
  generalize R[st] = rows at hrows h6 i1
  have q1 : (sTg (dTup (aCons (dCS 0 2 F_law_dip (aCons (dC (.int 4)) aNil)) (aCons (dCS 0 2 F_law_dip (aCons (dCb gLen (aCons (dV 1) aNil)) aNil)) aNil))) (gT 2 (glC (gN 2) (glC (gN 3) glN)))) [some (.lst l), some (eRc R), none, none, none, none, none, none, none, none, none, none] = some (.nx [some (.lst l2), some (eRc R), some (.int (w : Nat)), some (.int (st : Nat)), none, none, none, none, none, none, none, none]) := by simp [e1, len_Rc, e2]
  have q2 : (sSet 4 (dOp gIx (dV 1) (dV 3))) [some (.lst l2), some (eRc R), some (.int (w : Nat)), some (.int (st : Nat)), none, none, none, none, none, none, none, none] = some (.nx [some (.lst l2), some (eRc R), some (.int (w : Nat)), some (.int (st : Nat)), some (eSt rows), none, none, none, none, none, none, none]) := by simp [i1]
  have fin : Shp R (S_law_shaped [some (.lst l), some (eRc R), none, none, none, none, none, none, none, none, none, none]) := by
    have es : S_law_shaped [some (.lst l), some (eRc R), none, none, none, none, none, none, none, none, none, none] = _ := (seq_nx q1).trans (seq_nx q2)
    rw [es]
    have c0 : (bAnd (dT (dOp gEq (dV 2) (dC (.int 0)))) (dT (dChain gLt gLt (dC (.int 0)) (dCb gLen (aCons (dV 4) aNil)) (dC (.int 6))))) [some (.lst l2), some (eRc R), some (.int (w : Nat)), some (.int (st : Nat)), some (eSt rows), none, none, none, none, none, none, none] = some (decide (w = 0 ∧ 0 < rows.length ∧ rows.length < 6), [some (.lst l2), some (eRc R), some (.int (w : Nat)), some (.int (st : Nat)), some (eSt rows), none, none, none, none, none, none, none]) := by
      by_cases a : w = 0
      · subst a
        by_cases b : 0 < rows.length
        · by_cases c : rows.length < 6
          · have c' : ((rows.length : Int) < 6) = True := eq_true (by omega)
            simp [len_St, b, c, c']
          · have c' : ((rows.length : Int) < 6) = False := eq_false (by omega)
            simp [len_St, b, c, c']
        · have b' : ((0 : Int) < (rows.length : Int)) = False := eq_false (by omega)
          simp [len_St, b, b']
      · have a' : ((w : Int) = 0) = False := eq_false (by omega)
        simp [a, a']
    have c1 : (bAnd (dT (dOp gEq (dV 2) (dC (.int 1)))) (dT (dOp gLt (dCb gLen (aCons (dV 4) aNil)) (dC (.int 6))))) [some (.lst l2), some (eRc R), some (.int (w : Nat)), some (.int (st : Nat)), some (eSt rows), none, none, none, none, none, none, none] = some (decide (w = 1 ∧ rows.length < 6), [some (.lst l2), some (eRc R), some (.int (w : Nat)), some (.int (st : Nat)), some (eSt rows), none, none, none, none, none, none, none]) := by
      by_cases a : w = 1
      · subst a
        by_cases c : rows.length < 6
        · have c' : ((rows.length : Int) < 6) = True := eq_true (by omega)
          simp [len_St, c, c']
        · have c' : ((rows.length : Int) < 6) = False := eq_false (by omega)
          simp [len_St, c, c']
      · have a' : ((w : Int) = 1) = False := eq_false (by omega)
        simp [a, a']
    have c2 : (bAnd (dT (dOp gEq (dV 2) (dC (.int 2)))) (dT (dOp gGt (dCb gLen (aCons (dV 1) aNil)) (dC (.int 2))))) [some (.lst l2), some (eRc R), some (.int (w : Nat)), some (.int (st : Nat)), some (eSt rows), none, none, none, none, none, none, none] = some (decide (w = 2 ∧ 2 < R.length), [some (.lst l2), some (eRc R), some (.int (w : Nat)), some (.int (st : Nat)), some (eSt rows), none, none, none, none, none, none, none]) := by
      by_cases a : w = 2
      · subst a
        by_cases c : 2 < R.length
        · have c' : ((2 : Int) < (R.length : Int)) = True := eq_true (by omega)
          simp [len_Rc, c, c']
        · have c' : ((2 : Int) < (R.length : Int)) = False := eq_false (by omega)
          simp [len_Rc, c, c']
      · have a' : ((w : Int) = 2) = False := eq_false (by omega)
        simp [a, a']
    have c3 : (bAnd (dT (dOp gEq (dV 2) (dC (.int 3)))) (dT (dOp gLt (dCb gLen (aCons (dV 1) aNil)) (dC (.int 4))))) [some (.lst l2), some (eRc R), some (.int (w : Nat)), some (.int (st : Nat)), some (eSt rows), none, none, none, none, none, none, none] = some (decide (w = 3 ∧ R.length < 4), [some (.lst l2), some (eRc R), some (.int (w : Nat)), some (.int (st : Nat)), some (eSt rows), none, none, none, none, none, none, none]) := by
      by_cases a : w = 3
      · subst a
        by_cases c : R.length < 4
        · have c' : ((R.length : Int) < 4) = True := eq_true (by omega)
          simp [len_Rc, c, c']
        · have c' : ((R.length : Int) < 4) = False := eq_false (by omega)
          simp [len_Rc, c, c']
      · have a' : ((w : Int) = 3) = False := eq_false (by omega)
        simp [a, a']
    have step : ∀ {c : BD} {b rest : SD} {k : Bool} {ρ : DE}, c ρ = some (k, ρ) → (k = true → Shp R (b ρ)) → (k = false → Shp R (rest ρ)) → Shp R (sSeq (sIf c b sNil) rest ρ) := by
      intro c b rest k ρ hc h1 h2
      rw [e_sSeq, e_sIf, hc]
      cases k with
      | true =>
        obtain ⟨R', l', ρ', g, s, u, e⟩ := h1 rfl
        refine ⟨R', l', ρ', g, s, u, ?_⟩
        simp only [e]
      | false => exact h2 rfl
    refine step c0 (fun k => ?_) fun _ => step c1 (fun k => ?_) fun _ => step c2 (fun k => ?_) fun _ => step c3 (fun k => ?_) fun _ => ?_
    · have k := of_decide_eq_true k
      exact shp0 G s2 hrows k.2.1 k.2.2 _
    · have k := of_decide_eq_true k
      exact shp1 G s2 hrows k.2 _
    · have k := of_decide_eq_true k
      exact shp2 G s2 k.2 _ _
    · have k := of_decide_eq_true k
      exact shp3 G s2 hrows k.2 _
    · exact ⟨R, l2, _, G, s2, fun rising => alike_of Eq rfl (fun r r' e s => by rw [e]; exact ⟨rfl, rfl⟩), rfl⟩
  obtain ⟨R', l', ρ, g, s, u, e⟩ := fin
  refine ⟨R', l', g, ?_, s, u⟩
  have hst0 : startD 12 (.lst l :: [eRc R]) = [some (.lst l), some (eRc R), none, none, none, none, none, none, none, none, none, none] := rfl
  rw [show F_law_shaped = runS 12 S_law_shaped from rfl, e_runS, hst0, e]
  rfl
end DL
end
section
set_option Elab.async false
set_option linter.all false
set_option maxRecDepth 100000
set_option maxHeartbeats 4000000
set_option autoImplicit false
/-! The plain law: two receivers; rising rows. -/
namespace DL
open PySem PySem.Spec
open PyProof.Rows hiding St
open L2
def rest2 (FR FS FV : List D → List D → Option (D × List D)) : SD := (sSeq (sIf (dT (dOp gEq (dV 4) (dC (.int 0)))) (sRet (dLst (aCons (dV 3) (aCons (dCS 0 3 FR (aCons (dV 1) (aCons (dV 2) aNil))) aNil)))) sNil)
    (sSeq (sIf (dT (dOp gEq (dV 4) (dC (.int 1)))) (sRet (dLst (aCons (dV 3) (aCons (dCS 0 2 FS (aCons (dV 3) aNil)) aNil)))) sNil)
    (sSeq (sSet 5 (dCS 0 2 FV (aCons (dV 3) aNil)))
    (sRet (dLst (aCons (dV 3) (aCons (dIf (dT (dOp gLt (dV 4) (dC (.int 4)))) (dV 5) (dCS 0 2 FS (aCons (dV 5) aNil))) aNil)))))))
theorem rest2_ok (FR FS FV : List D → List D → Option (D × List D)) {l : List D} {w : Nat} {a : D} (h : SPr l) (ok : D → Prop) (oa : ok a)
    (hR : ∀ l, SPr l → ∃ d l', ok d ∧ FR l [.int 3, .int 4] = some (d, l') ∧ SPr l') (hS : ∀ x l, ok x → SPr l → ∃ d l', ok d ∧ FS l [x] = some (d, l') ∧ SPr l') (hV : ∀ x l, ok x → SPr l → ∃ d l', ok d ∧ FV l [x] = some (d, l') ∧ SPr l') :
    ∃ (b : D) (l' : List D) (ρ : DE), ok b ∧ SPr l' ∧ rest2 FR FS FV [some (.lst l), some (.int 3), some (.int 4), some a, some (.int (w : Nat)), none] = some (.rt (.lst [a, b]) (some (.lst l') :: ρ)) := by
  by_cases w0 : w = 0
  · subst w0
    obtain ⟨d, l', od, e, s⟩ := hR l h
    exact ⟨d, l', [some (.int 3), some (.int 4), some a, some (.int 0), none], od, s, by simp [rest2, e]⟩
  · have i0 : ((w : Int) = 0) = False := eq_false (by omega)
    by_cases w1 : w = 1
    · subst w1
      obtain ⟨d, l', od, e, s⟩ := hS a l oa h
      exact ⟨d, l', [some (.int 3), some (.int 4), some a, some (.int 1), none], od, s, by simp [rest2, e]⟩
    · have i1 : ((w : Int) = 1) = False := eq_false (by omega)
      obtain ⟨d, l1, od, e, s⟩ := hV a l oa h
      by_cases w4 : w < 4
      · have i4 : ((w : Int) < 4) = True := eq_true (by omega)
        exact ⟨d, l1, [some (.int 3), some (.int 4), some a, some (.int (w : Nat)), some d], od, s, by simp [rest2, w0, i0, w1, i1, e, w4, i4]⟩
      · have i4 : ((w : Int) < 4) = False := eq_false (by omega)
        obtain ⟨d2, l2, od2, e2, s2⟩ := hS d l1 od s
        exact ⟨d2, l2, [some (.int 3), some (.int 4), some a, some (.int (w : Nat)), some d], od2, s2, by simp [rest2, w0, i0, w1, i1, e, e2, w4, i4]⟩
theorem p_two {l : List D} (h : SPr l) : ∃ (A B : Rcv) (l' : List D), Good A ∧ Good B ∧ F_law_two l [.int 3, .int 4] = some (.lst [eRc A, eRc B], l') ∧ SPr l' := by
  obtain ⟨A, l1, GA, e1, s1⟩ := p_receiver h
  obtain ⟨w, l2, e2, hw, s2⟩ := p_dip s1 (n := 5) (by decide) (by decide)
  have q1 : ∀ FR : List D → List D → Option (D × List D), FR l [.int 3, .int 4] = some (eRc A, l1) → (sPar 3 4 (aCons (dCS 0 3 FR (aCons (dV 1) (aCons (dV 2) aNil))) (aCons (dCS 0 2 F_law_dip (aCons (dC (.int 5)) aNil)) aNil))) [some (.lst l), some (.int 3), some (.int 4), none, none, none] = some (.nx [some (.lst l2), some (.int 3), some (.int 4), some (eRc A), some (.int (w : Nat)), none]) := fun FR e => by simp [e, e2]
  obtain ⟨b, l', ρ, ⟨B, GB, rfl⟩, s', er⟩ := rest2_ok F_law_receiver F_law_shaped F_law_varied (w := w) (a := eRc A) s2 (fun d => ∃ R, Good R ∧ d = eRc R) ⟨A, GA, rfl⟩
    (fun l h => let ⟨R, l', G, e, s⟩ := p_receiver h; ⟨_, l', ⟨R, G, rfl⟩, e, s⟩)
    (fun x l hx h => by
      obtain ⟨R, G, rfl⟩ := hx
      obtain ⟨R', l', G', e, s, _⟩ := p_shaped G h
      exact ⟨_, l', ⟨R', G', rfl⟩, e, s⟩)
    (fun x l hx h => by
      obtain ⟨R, G, rfl⟩ := hx
      obtain ⟨R', l', G', e, s⟩ := p_varied G h
      exact ⟨_, l', ⟨R', G', rfl⟩, e, s⟩)
  refine ⟨A, B, l', GA, GB, ?_, s'⟩
  have hst0 : startD 6 (.lst l :: [.int 3, .int 4]) = [some (.lst l), some (.int 3), some (.int 4), none, none, none] := rfl
  unfold rest2 at er
  have es : S_law_two [some (.lst l), some (.int 3), some (.int 4), none, none, none] = _ := (seq_nx (q1 F_law_receiver e1)).trans er
  rw [show F_law_two = runS 6 S_law_two from rfl, e_runS, hst0, es]
  rfl
/-! ### a rising row -/
theorem asc_last (p n : Int) (l : List Int) (h : asc p l = true) (hn : l.getLast?.getD p < n) : asc p (l ++ [n]) = true := by
  rw [asc_snoc, h, decide_eq_true hn]
  rfl
def bodyRs : SD := (sSeq (sSet 2 (dOp gAdd (dOp gAdd (dV 2) (dC (.int 1))) (dCS 0 2 F_law_pick (aCons (dLst (aCons (dC (.int 0)) (aCons (dC (.int 0)) (aCons (dC (.int 0)) (aCons (dC (.int 1)) (aCons (dC (.int 2)) (aCons (dCS 0 2 F_law_dip (aCons (dC (.int 7)) aNil)) (aCons (dC (.int 13)) (aCons (dOp gPow (dC (.int 10)) (dC (.int 20))) aNil))))))))) aNil))))
    (sApp 3 (dV 2)))
theorem pow20 : gPow (.int 10) (.int 20) = some (.int 100000000000000000000) := by
  show (if 0 ≤ (20 : Int) ∧ (20 : Int) ≤ 1000000 ∧ (10 : Int).natAbs < 2 ^ 64 then some (D.int ((10 : Int) ^ (20 : Int).toNat)) else none) = _
  rw [if_pos (by decide), show ((10 : Int) ^ (20 : Int).toNat) = 100000000000000000000 by decide]
theorem bodyRs_ok {l : List D} (h : SPr l) (x y : Int) (l1 : List Int) (hl : l1.length ≤ 1000) : ∃ (v : Int) (l' : List D), 0 ≤ v ∧ SPr l' ∧
    bodyRs [some (.lst l), some (.int 6), some (.int x), some (.lst (l1.map D.int)), some (.int y)] = some (.nx [some (.lst l'), some (.int 6), some (.int (x + 1 + v)), some (.lst ((l1 ++ [x + 1 + v]).map D.int)), some (.int y)]) := by
  obtain ⟨u, l2, e2, hu, s2⟩ := p_dip h (n := 7) (by decide) (by decide)
  obtain ⟨d, l3, hd, e3, s3⟩ := p_pick s2 [.int 0, .int 0, .int 0, .int 1, .int 2, .int (u : Nat), .int 13, .int 100000000000000000000] (by simp) (by simp)
  have hv : ∃ v : Int, d = .int v ∧ 0 ≤ v := by
    simp only [List.mem_cons, List.not_mem_nil, or_false] at hd
    rcases hd with rfl | rfl | rfl | rfl | rfl | rfl | rfl | rfl
    all_goals first | exact ⟨_, rfl, by omega⟩
  obtain ⟨v, rfl, hv⟩ := hv
  have szl : (l1.length < sizeLine) = True := eq_true (sz' _ (by omega))
  exact ⟨v, l3, hv, s3, by simp [bodyRs, e2, pow20, e3, szl]⟩
theorem p_rising {l : List D} (h : SPr l) : ∃ (ns : List Int) (l' : List D), asc 0 ns = true ∧ ns.length ≤ 7 ∧ F_law_rising l [.int 6] = some (.tup (ns.map D.int), l') ∧ SPr l' := by
  obtain ⟨u, l2, e2, hu, s2⟩ := p_dip h (n := 7) (by decide) (by decide)
  have f := sFor_nx (fun i : Nat => D.int (i : Nat)) (g := gN 4) (b := bodyRs)
    (fun r ρ => ∃ (ns : List Int) (l' : List D) (x4 : Option D), ρ = [some (.lst l'), some (.int 6), some (.int (ns.getLast?.getD 0)), some (.lst (ns.map D.int)), x4] ∧ SPr l' ∧ asc 0 ns = true ∧ ns.length + r.length = u) ?_ (List.range u) [some (.lst l2), some (.int 6), some (.int 0), some (.lst []), none] ⟨[], l2, none, rfl, s2, rfl, by simp⟩
  · obtain ⟨ρ', e, ns, l', x4, rfl, s', ha, hl⟩ := f
    simp at hl
    refine ⟨ns, l', ha, by omega, ?_, s'⟩
    have q1 : (sParF 2 3 (dC (.int 0)) (dLst aNil)) [some (.lst l), some (.int 6), none, none, none] = some (.nx [some (.lst l), some (.int 6), some (.int 0), some (.lst []), none]) := by simp
    have hlr : lR (dCS 0 2 F_law_dip (aCons (dOp gAdd (dV 1) (dC (.int 1))) aNil)) [some (.lst l), some (.int 6), some (.int 0), some (.lst []), none] = some ((List.range u).map fun i => D.int (i : Nat), [some (.lst l2), some (.int 6), some (.int 0), some (.lst []), none]) := lR_ok (by simp [e2]) (by omega)
    have q2 : sFor (lR (dCS 0 2 F_law_dip (aCons (dOp gAdd (dV 1) (dC (.int 1))) aNil))) (gN 4) bodyRs [some (.lst l), some (.int 6), some (.int 0), some (.lst []), none] = some (.nx [some (.lst l'), some (.int 6), some (.int (ns.getLast?.getD 0)), some (.lst (ns.map D.int)), x4]) := by
      rw [e_sFor, hlr, Option.bind_some, e]
    unfold bodyRs at q2
    have hst0 : startD 5 (.lst l :: [.int 6]) = [some (.lst l), some (.int 6), none, none, none] := rfl
    have es : S_law_rising [some (.lst l), some (.int 6), none, none, none] = _ := (seq_nx q1).trans (seq_nx q2)
    rw [show F_law_rising = runS 5 S_law_rising from rfl, e_runS, hst0, es]
    rfl
  · rintro i r ρ ⟨ns, l', x4, rfl, s', ha, hl⟩
    simp at hl
    obtain ⟨v, l3, hv, s3, e3⟩ := bodyRs_ok s' (ns.getLast?.getD 0) (i : Int) ns (by omega)
    refine ⟨[some (.lst l'), some (.int 6), some (.int (ns.getLast?.getD 0)), some (.lst (ns.map D.int)), some (.int (i : Nat))], _, by simp, e3, ns ++ [ns.getLast?.getD 0 + 1 + v], l3, some (.int (i : Nat)), ?_, s3, asc_last _ _ _ ha (by omega), by simp; omega⟩
    simp
end DL
end
section
set_option Elab.async false
set_option linter.all false
set_option maxRecDepth 100000
set_option maxHeartbeats 4000000
set_option autoImplicit false
/-! The plain law: the law's own hearing. -/
namespace DL
open PySem PySem.Spec
open PyProof.Rows hiding St
open L2
theorem p_law_lies (n : Int) (r : Rng) : F_law_lies [.int n, eR r] = some (.bl (lies n r)) := by
  obtain ⟨lo, hi⟩ := r
  unfold eR lies
  cases lo with
  | none => cases hi <;> simp [F_law_lies, S_law_lies, startD, eO]
  | some a => by_cases h : a ≤ n <;> cases hi <;> simp [F_law_lies, S_law_lies, startD, eO, h]
theorem len_Rest (r : Rest) : gLen [eRest r] = some (.int (if r.2 = none then 1 else 2)) := by
  obtain ⟨s, g⟩ := r
  cases g <;> rfl
def bodyLc : SD := (sSeq (sTg (dSl (dOp gIx (dOp gIx (dV 0) (dOp gIx (dV 1) (dC (.int 0)))) (dV 3)) oN (oS (dC (.int 2)))) (gT 2 (glC (gN 4) (glC (gN 5) glN))))
    (sIf (dT (dCal 2 F_law_lies (aCons (dV 2) (aCons (dV 4) aNil)))) (sIf (bOr (dT (dOp gIs (dV 5) (dC .non))) (bAnd (dT (dOp gGt (dCb gLen (aCons (dV 1) aNil)) (dC (.int 1)))) (dT (dCal 2 F_law_lies (aCons (dOp gSub (dV 2) (dOp gIx (dV 1) (dC (.int 1)))) (aCons (dV 5) aNil)))))) (sRet (dV 3)) sNil) sNil))
theorem bodyLc_ok {R : Rcv} {rest : Rest} {rows : List Row} (hr : R[rest.1]? = some rows) (step : Int) (k : Nat) {row : Row} (hk : rows[k]? = some row) (x4 x5 : Option D) :
    bodyLc [some (eRc R), some (eRest rest), some (.int step), some (.int (k : Nat)), x4, x5] = if counts row rest.2 step = true then some (.rt (.int (k : Nat)) [some (eRc R), some (eRest rest), some (.int step), some (.int (k : Nat)), some (eR row.ahead), some (eA row.after)])
      else some (.nx [some (eRc R), some (eRest rest), some (.int step), some (.int (k : Nat)), some (eR row.ahead), some (eA row.after)]) := by
  have i1 := ix_Rc hr
  have i2 := ix_St hk
  have i3 := sl_Row_to2 row
  obtain ⟨s, gap⟩ := rest
  obtain ⟨ah, af, dd, bh⟩ := row
  have lr := len_Rest (s, gap)
  unfold counts
  cases h : lies step ah with
  | false => simp [bodyLc, i1, i2, i3, p_law_lies, h]
  | true =>
    cases af with
    | none => simp [bodyLc, i1, i2, i3, p_law_lies, h, eA]
    | some r =>
      cases gap with
      | none => simp [bodyLc, i1, i2, i3, p_law_lies, h, eA, lr]
      | some g =>
        have ig : gIx (eRest (s, some g)) (.int 1) = some (.int g) := rfl
        cases h2 : lies (step - g) r <;> simp [bodyLc, i1, i2, i3, p_law_lies, h, eA, lr, ig, h2]
theorem p_law_counting {R : Rcv} {rest : Rest} {rows : List Row} (hr : R[rest.1]? = some rows) (h6 : rows.length ≤ 6) (step : Int) : F_law_counting [eRc R, eRest rest, .int step] = some (match rows.findIdx? (fun row => counts row rest.2 step) with
    | none => .non
    | some i => .int (i : Nat)) := by
  have f := sFor_rule (fun i : Nat => D.int (i : Nat)) (g := gN 3) (b := bodyLc)
    (fun r ρ => ∃ (pre : List Nat) (x3 x4 x5 : Option D), List.range rows.length = pre ++ r ∧ ρ = [some (eRc R), some (eRest rest), some (.int step), x3, x4, x5] ∧ ∀ i ∈ pre, ∀ row, rows[i]? = some row → counts row rest.2 step = false)
    (fun d => ∃ i : Nat, d = .int (i : Nat) ∧ rows.findIdx? (fun row => counts row rest.2 step) = some i) ?_ (List.range rows.length) [some (eRc R), some (eRest rest), some (.int step), none, none, none] ⟨[], none, none, none, rfl, rfl, by simp⟩
  · have i1 := ix_Rc hr
    have hlr : lR (dCb gLen (aCons (dOp gIx (dV 0) (dOp gIx (dV 1) (dC (.int 0)))) aNil)) [some (eRc R), some (eRest rest), some (.int step), none, none, none] = some ((List.range rows.length).map fun i => D.int (i : Nat), [some (eRc R), some (eRest rest), some (.int step), none, none, none]) := lR_ok (by simp [i1, len_St]) (by omega)
    have hst0 : startD 6 [eRc R, eRest rest, .int step] = [some (eRc R), some (eRest rest), some (.int step), none, none, none] := rfl
    rw [show F_law_counting = runP 6 S_law_counting from rfl, e_runP, hst0]
    unfold S_law_counting
    rw [← bodyLc]
    rcases f with ⟨ρ', e, pre, x3, x4, x5, hp, rfl, h1⟩ | ⟨d, ρ', e, i, rfl, h1⟩
    · rw [List.append_nil] at hp
      have hn : rows.findIdx? (fun row => counts row rest.2 step) = none := by
        rw [List.findIdx?_eq_none_iff]
        intro x hx
        obtain ⟨i, hi⟩ := List.getElem?_of_mem hx
        exact h1 i (by rw [← hp]; exact List.mem_range.mpr (List.getElem?_eq_some_iff.mp hi).1) x hi
      rw [hn, e_sSeq, e_sFor, hlr, Option.bind_some, e]
      rfl
    · rw [h1, e_sSeq, e_sFor, hlr, Option.bind_some, e]
  · rintro i r ρ ⟨pre, x3, x4, x5, hp, rfl, h1⟩
    have hi : pre.length = i := by
      have e : (List.range rows.length)[pre.length]? = some i := by rw [hp]; simp
      have hl := (List.getElem?_eq_some_iff.mp e).1
      rw [List.length_range] at hl
      rw [List.getElem?_range hl] at e
      exact Option.some.inj e
    have hil : i < rows.length := by
      have : i ∈ List.range rows.length := by rw [hp]; simp
      exact List.mem_range.mp this
    have hk : rows[i]? = some rows[i] := List.getElem?_eq_getElem hil
    have b := bodyLc_ok hr step i hk x4 x5
    refine ⟨[some (eRc R), some (eRest rest), some (.int step), some (.int (i : Nat)), x4, x5], by simp, ?_⟩
    by_cases c : counts rows[i] rest.2 step = true
    · rw [if_pos c] at b
      refine .inr ⟨_, _, b, i, rfl, ?_⟩
      rw [List.findIdx?_eq_some_iff_getElem]
      refine ⟨hil, c, fun j hj => ?_⟩
      have : j ∈ pre := by
        have e : (List.range rows.length)[j]? = some j := List.getElem?_range (by omega)
        rw [hp, List.getElem?_append_left (by omega)] at e
        exact List.mem_of_getElem? e
      rw [h1 j this _ (List.getElem?_eq_getElem (by omega))]
      simp
    · rw [if_neg c] at b
      refine .inl ⟨_, b, pre ++ [i], _, _, _, by simp [hp], rfl, fun j hj row hrow => ?_⟩
      rcases List.mem_append.mp hj with z | z
      · exact h1 j z row hrow
      · simp at z
        subst z
        rw [hk] at hrow
        cases hrow
        simpa using c
theorem eq_take (d : Deed) : gEq (eDd d) (.str "take") = some (.bl (decide (d = .take))) := by
  cases d
  · rfl
  · rw [show gEq (eDd .keep) (.str "take") = some (.bl (decide (Str.ofString "keep" = Str.ofString "take"))) from rfl]; congr 2
  · rw [show gEq (eDd .leave) (.str "take") = some (.bl (decide (Str.ofString "leave" = Str.ofString "take"))) from rfl]; congr 2
  · rw [show gEq (eDd .drop) (.str "take") = some (.bl (decide (Str.ofString "drop" = Str.ofString "take"))) from rfl]; congr 2
theorem eq_leave (d : Deed) : gEq (eDd d) (.str "leave") = some (.bl (decide (d = .leave))) := by
  cases d
  · rw [show gEq (eDd .take) (.str "leave") = some (.bl (decide (Str.ofString "take" = Str.ofString "leave"))) from rfl]; congr 2
  · rw [show gEq (eDd .keep) (.str "leave") = some (.bl (decide (Str.ofString "keep" = Str.ofString "leave"))) from rfl]; congr 2
  · rfl
  · rw [show gEq (eDd .drop) (.str "leave") = some (.bl (decide (Str.ofString "drop" = Str.ofString "leave"))) from rfl]; congr 2
theorem p_law_step {R : Rcv} (G : Good R) {rest : Rest} (hro : RO R.length rest) (step : Int) : F_law_step [eRc R, eRest rest, .int step] = some (eStep (stepR R rest step)) := by
  have h := hro.1
  have hrows : R[rest.1]? = some R[rest.1] := List.getElem?_eq_getElem h
  have hc := p_law_counting hrows (G.few _ (List.getElem_mem h)) step
  unfold stepR
  rw [hrows, Option.getD_some]
  have e1 := ix_Rc hrows
  cases q : R[rest.1].findIdx? (fun row => counts row rest.2 step) with
  | none =>
    have q2 : R[rest.1].find? (fun row => counts row rest.2 step) = none := by
      rw [List.findIdx?_eq_none_iff] at q
      rw [List.find?_eq_none]
      exact fun x hx z => by rw [q x hx] at z; cases z
    rw [q] at hc
    rw [q2]
    simp [F_law_step, S_law_step, startD, hc, eStep]
  | some i =>
    obtain ⟨row, h1, h2⟩ := find_of q
    rw [q] at hc
    rw [h2]
    have e2 := ix_St h1
    obtain ⟨ah, af, dd, bh⟩ := row
    have gl : (1 + (eGap rest.2).length ≤ sizeLine) = True := eq_true (sz _ (by have := gap_len rest.2; omega))
    have k1 := eq_keep dd
    have k2 := eq_take dd
    have k3 := eq_leave dd
    cases dd <;> simp at k1 k2 k3 <;> simp [F_law_step, S_law_step, startD, hc, eStep, e1, e2, k1, k2, k3, gl, rest_eq, szl1]
end DL
end
section
set_option Elab.async false
set_option linter.all false
set_option maxRecDepth 100000
set_option maxHeartbeats 4000000
set_option autoImplicit false
/-! The plain law: drawn rows of numbers. -/
namespace DL
open PySem PySem.Spec
open PyProof.Rows hiding St
open L2
theorem p_law_rest (r : Rest) (last : Int) : F_law_rest [eStd r last] = some (eRest r) := by
  obtain ⟨s, g⟩ := r
  cases g with
  | none => simp [F_law_rest, S_law_rest, startD, eStd, eO, eRest]
  | some g =>
    simp [F_law_rest, S_law_rest, startD, eStd, eO, eRest]
    omega
theorem p_law_heard {R : Rcv} (G : Good R) {r : Rest} (hro : RO R.length r) (last n : Int) : F_law_heard [eRc R, eStd r last, .int n] = some (.tup [.bl (stepR R r (n - last)).1, eStd (stepR R r (n - last)).2 (if (stepR R r (n - last)).1 then n else last)]) := by
  have ps := p_law_step G hro (n - last)
  have pr := p_law_rest r last
  cases ht : (stepR R r (n - last)).1 with
  | true =>
    have h2 := stepR_take ht
    have e : eStd (stepR R r (n - last)).2 n = .tup [.int ((stepR R r (n - last)).2.1 : Nat), .int n, .non] := by
      unfold eStd
      rw [h2]
      rfl
    have lr := len_Rest (stepR R r (n - last)).2
    rw [h2] at lr
    simp at lr
    simp [F_law_heard, S_law_heard, startD, pr, ps, eStep, ht, e, lr]
  | false =>
    cases hg : (stepR R r (n - last)).2 with
    | mk s' g' =>
      cases g' with
      | none =>
        have e : eStd (s', none) last = .tup [.int (s' : Nat), .int last, .non] := rfl
        have e2 : gLen [eRest (s', none)] = some (.int 1) := rfl
        simp [F_law_heard, S_law_heard, startD, pr, ps, eStep, ht, hg, e, e2]
      | some g =>
        have e : eStd (s', some g) last = .tup [.int (s' : Nat), .int last, .int (last + g)] := rfl
        have e2 : gLen [eRest (s', some g)] = some (.int 2) := rfl
        have e4 : gIx (eRest (s', some g)) (.int 1) = some (.int g) := rfl
        simp [F_law_heard, S_law_heard, startD, pr, ps, eStep, ht, hg, e, e2, e4]
def numsL : List D := [.int (-100000000000000000000), .int (-14), .int (-13), .int (-7), .int 7, .int 13, .int 14, .int 100000000000000000000]
theorem numsL_int {d : D} (h : d ∈ numsL) : ∃ v : Int, d = .int v := by
  simp only [numsL, List.mem_cons, List.not_mem_nil, or_false] at h
  rcases h with rfl | rfl | rfl | rfl | rfl | rfl | rfl | rfl <;> exact ⟨_, rfl⟩
@[simp] theorem ix_Std2 (r : Rest) (last : Int) : gIx (eStd r last) (.int 2) = some (eO (r.2.map fun g => last + g)) := rfl
def ifN (FD FK : List D → List D → Option (D × List D)) : SD := (sIf (dT (dOp gEq (dV 7) (dC (.int 0)))) (sSet 8 (dOp gAdd (dOp gIx (dV 4) (dC (.int 1))) (dCS 0 2 FK (aCons (dLst (aCons (dNeg (dOp gPow (dC (.int 10)) (dC (.int 20)))) (aCons (dNeg (dC (.int 14))) (aCons (dNeg (dC (.int 13))) (aCons (dNeg (dC (.int 7))) (aCons (dC (.int 7)) (aCons (dC (.int 13)) (aCons (dC (.int 14)) (aCons (dOp gPow (dC (.int 10)) (dC (.int 20))) aNil))))))))) aNil)))) (sIf (bAnd (dT (dOp gEq (dV 7) (dC (.int 1)))) (dT (dOwn 5 kNN))) (sSet 8 (dO 5 (dNeg (dC (.int 1))) gIx)) (sIf (bAnd (dT (dOp gLt (dV 7) (dC (.int 4)))) (dT (dOp gIsNot (dOp gIx (dV 4) (dC (.int 2))) (dC .non)))) (sSet 8 (dOp gSub (dOp gAdd (dOp gIx (dV 4) (dC (.int 2))) (dCS 0 2 FD (aCons (dC (.int 5)) aNil))) (dC (.int 1)))) (sSet 8 (dOp gAdd (dOp gIx (dV 4) (dC (.int 1))) (dIf (dT (dOp gLt (dV 7) (dC (.int 6)))) (dOp gSub (dCS 0 2 FD (aCons (dC (.int 15)) aNil)) (dC (.int 7))) (dOp gAdd (dC (.int 1)) (dCS 0 2 FD (aCons (dC (.int 7)) aNil)))))))))
theorem ifN_ok {l : List D} (h : SPr l) (X k : D) (r : Rest) (last : Int) (ns : List Int) (w : Nat) (x8 : Option D) : ∃ (n : Int) (l' : List D), SPr l' ∧ ifN F_law_dip F_law_pick [some (.lst l), some X, some (.int 0), some (.int 7), some (eStd r last), some (.lst (ns.map D.int)), some k, some (.int (w : Nat)), x8] =
    some (.nx [some (.lst l'), some X, some (.int 0), some (.int 7), some (eStd r last), some (.lst (ns.map D.int)), some k, some (.int (w : Nat)), some (.int n)]) := by
  have final : ∀ (g0 : ¬ w = 0), (¬ (w = 1 ∧ ns ≠ [])) → (¬ (w < 4 ∧ r.2 ≠ none)) → ∃ (n : Int) (l' : List D), SPr l' ∧ ifN F_law_dip F_law_pick [some (.lst l), some X, some (.int 0), some (.int 7), some (eStd r last), some (.lst (ns.map D.int)), some k, some (.int (w : Nat)), x8] =
      some (.nx [some (.lst l'), some X, some (.int 0), some (.int 7), some (eStd r last), some (.lst (ns.map D.int)), some k, some (.int (w : Nat)), some (.int n)]) := by
    intro g0 g1 g2
    have c1 : (bAnd (dT (dOp gEq (dV 7) (dC (.int 1)))) (dT (dOwn 5 kNN))) [some (.lst l), some X, some (.int 0), some (.int 7), some (eStd r last), some (.lst (ns.map D.int)), some k, some (.int (w : Nat)), x8] = some (false, [some (.lst l), some X, some (.int 0), some (.int 7), some (eStd r last), some (.lst (ns.map D.int)), some k, some (.int (w : Nat)), x8]) := by
      by_cases a : w = 1
      · subst a
        have : ns = [] := by
          by_cases z : ns = []
          · exact z
          · exact absurd ⟨rfl, z⟩ g1
        subst this
        simp
      · have a' : ((w : Int) = 1) = False := eq_false (by omega)
        simp [a, a']
    have c2 : (bAnd (dT (dOp gLt (dV 7) (dC (.int 4)))) (dT (dOp gIsNot (dOp gIx (dV 4) (dC (.int 2))) (dC .non)))) [some (.lst l), some X, some (.int 0), some (.int 7), some (eStd r last), some (.lst (ns.map D.int)), some k, some (.int (w : Nat)), x8] = some (false, [some (.lst l), some X, some (.int 0), some (.int 7), some (eStd r last), some (.lst (ns.map D.int)), some k, some (.int (w : Nat)), x8]) := by
      by_cases a : w < 4
      · have a' : ((w : Int) < 4) = True := eq_true (by omega)
        have : r.2 = none := by
          cases z : r.2 with
          | none => rfl
          | some g => exact absurd ⟨a, by rw [z]; simp⟩ g2
        simp [a, a', this, eO]
      · have a' : ((w : Int) < 4) = False := eq_false (by omega)
        simp [a, a']
    have i0 : ((w : Int) = 0) = False := eq_false (by omega)
    have c0 : (dT (dOp gEq (dV 7) (dC (.int 0)))) [some (.lst l), some X, some (.int 0), some (.int 7), some (eStd r last), some (.lst (ns.map D.int)), some k, some (.int (w : Nat)), x8] = some (false, [some (.lst l), some X, some (.int 0), some (.int 7), some (eStd r last), some (.lst (ns.map D.int)), some k, some (.int (w : Nat)), x8]) := by simp [g0]
    unfold ifN
    by_cases h6 : w < 6
    · have a6 : ((w : Int) < 6) = True := eq_true (by omega)
      obtain ⟨v, l', e, hv, s⟩ := p_dip h (n := 15) (by decide) (by decide)
      refine ⟨last + ((v : Int) - 7), l', s, ?_⟩
      rw [e_sIf, c0]
      simp only
      rw [e_sIf, c1]
      simp only
      rw [e_sIf, c2]
      simp [a6, h6, e]
    · have a6 : ((w : Int) < 6) = False := eq_false (by omega)
      obtain ⟨v, l', e, hv, s⟩ := p_dip h (n := 7) (by decide) (by decide)
      refine ⟨last + (1 + (v : Int)), l', s, ?_⟩
      rw [e_sIf, c0]
      simp only
      rw [e_sIf, c1]
      simp only
      rw [e_sIf, c2]
      simp [a6, h6, e]
  by_cases w0 : w = 0
  · subst w0
    obtain ⟨d, l', hd, e, s⟩ := p_pick h numsL (by simp [numsL]) (by simp [numsL])
    obtain ⟨v, rfl⟩ := numsL_int hd
    unfold numsL at e
    exact ⟨last + v, l', s, by simp [ifN, pow20, e]⟩
  · by_cases c1 : w = 1 ∧ ns ≠ []
    · obtain ⟨rfl, hn⟩ := c1
      have he : ns.isEmpty = false := by cases ns with
        | nil => exact absurd rfl hn
        | cons a b => rfl
      cases hl : ns.getLast? with
      | none => rw [List.getLast?_eq_none_iff] at hl; exact absurd hl hn
      | some z => exact ⟨z, l, h, by simp [ifN, he, hl]⟩
    · by_cases c2 : w < 4 ∧ r.2 ≠ none
      · obtain ⟨h4, hr⟩ := c2
        obtain ⟨g, hg⟩ : ∃ g, r.2 = some g := by
          cases z : r.2 with
          | none => exact absurd z hr
          | some g => exact ⟨g, rfl⟩
        obtain ⟨v, l', e, hv, s⟩ := p_dip h (n := 5) (by decide) (by decide)
        have a4 : ((w : Int) < 4) = True := eq_true (by omega)
        have i0 : ((w : Int) = 0) = False := eq_false (by omega)
        refine ⟨last + g + v - 1, l', s, ?_⟩
        by_cases w1 : w = 1
        · subst w1
          have hn : ns = [] := by
            by_cases z : ns = []
            · exact z
            · exact absurd ⟨rfl, z⟩ c1
          subst hn
          simp [ifN, hg, eO, e]
        · have i1 : ((w : Int) = 1) = False := eq_false (by omega)
          simp [ifN, w0, i0, w1, i1, a4, h4, hg, eO, e]
      · exact final w0 c1 c2
end DL
end
section
set_option Elab.async false
set_option linter.all false
set_option maxRecDepth 100000
set_option maxHeartbeats 4000000
set_option autoImplicit false
/-! The plain law: law_numbers, law_first_unlike. -/
namespace DL
open PySem PySem.Spec
open PyProof.Rows hiding St
open L2
def bodyNu : SD := (sSeq (sSet 7 (dCS 0 2 F_law_dip (aCons (dC (.int 9)) aNil)))
    (sSeq (ifN F_law_dip F_law_pick)
    (sSeq (sApp 5 (dV 8))
    (sSet 4 (dOp gIx (dCal 3 F_law_heard (aCons (dV 1) (aCons (dV 4) (aCons (dV 8) aNil)))) (dC (.int 1)))))))
theorem p_law_numbers {R : Rcv} (G : Good R) {l : List D} (h : SPr l) : ∃ (ns : List Int) (l' : List D), ns.length ≤ 8 ∧ F_law_numbers l [eRc R, .int 0, .int 7] = some (.tup (ns.map D.int), l') ∧ SPr l' := by
  obtain ⟨u, l2, e2, hu, s2⟩ := p_dip h (n := 8) (by decide) (by decide)
  have f := sFor_nx (fun i : Nat => D.int (i : Nat)) (g := gN 6) (b := bodyNu)
    (fun r ρ => ∃ (ns : List Int) (l' : List D) (rt : Rest) (lt : Int) (x6 x7 x8 : Option D), ρ = [some (.lst l'), some (eRc R), some (.int 0), some (.int 7), some (eStd rt lt), some (.lst (ns.map D.int)), x6, x7, x8] ∧ SPr l' ∧ RO R.length rt ∧ ns.length + r.length = u) ?_ (List.range u)
    [some (.lst l2), some (eRc R), some (.int 0), some (.int 7), some (eStd (0, none) 0), some (.lst []), none, none, none] ⟨[], l2, (0, none), 0, none, none, none, rfl, s2, ⟨G.pos, fun g e => nomatch e⟩, by simp⟩
  · obtain ⟨ρ', e, ns, l', rt, lt, x6, x7, x8, rfl, s', hro, hl⟩ := f
    simp at hl
    refine ⟨ns, l', by omega, ?_, s'⟩
    have q1 : (sParF 4 5 (dTup (aCons (dC (.int 0)) (aCons (dV 2) (aCons (dC .non) aNil)))) (dLst aNil)) [some (.lst l), some (eRc R), some (.int 0), some (.int 7), none, none, none, none, none] = some (.nx [some (.lst l), some (eRc R), some (.int 0), some (.int 7), some (eStd (0, none) 0), some (.lst []), none, none, none]) := rfl
    have hlr : lR (dCS 0 2 F_law_dip (aCons (dOp gAdd (dV 3) (dC (.int 1))) aNil)) [some (.lst l), some (eRc R), some (.int 0), some (.int 7), some (eStd (0, none) 0), some (.lst []), none, none, none] = some ((List.range u).map fun i => D.int (i : Nat), [some (.lst l2), some (eRc R), some (.int 0), some (.int 7), some (eStd (0, none) 0), some (.lst []), none, none, none]) := lR_ok (by simp [e2]) (by omega)
    have q2 : sFor (lR (dCS 0 2 F_law_dip (aCons (dOp gAdd (dV 3) (dC (.int 1))) aNil))) (gN 6) bodyNu [some (.lst l), some (eRc R), some (.int 0), some (.int 7), some (eStd (0, none) 0), some (.lst []), none, none, none] = some (.nx [some (.lst l'), some (eRc R), some (.int 0), some (.int 7), some (eStd rt lt), some (.lst (ns.map D.int)), x6, x7, x8]) := by
      rw [e_sFor, hlr, Option.bind_some, e]
    unfold bodyNu ifN at q2
    have hst0 : startD 9 (.lst l :: [eRc R, .int 0, .int 7]) = [some (.lst l), some (eRc R), some (.int 0), some (.int 7), none, none, none, none, none] := rfl
    have es : S_law_numbers [some (.lst l), some (eRc R), some (.int 0), some (.int 7), none, none, none, none, none] = _ := (seq_nx q1).trans (seq_nx q2)
    rw [show F_law_numbers = runS 9 S_law_numbers from rfl, e_runS, hst0, es]
    rfl
  · rintro i r ρ ⟨ns, l', rt, lt, x6, x7, x8, rfl, s', hro, hl⟩
    simp at hl
    obtain ⟨w, l3, e3, hw, s3⟩ := p_dip s' (n := 9) (by decide) (by decide)
    obtain ⟨n, l4, s4, e4⟩ := ifN_ok s3 (eRc R) (.int (i : Nat)) rt lt ns w x8
    have q1 : (sSet 7 (dCS 0 2 F_law_dip (aCons (dC (.int 9)) aNil))) [some (.lst l'), some (eRc R), some (.int 0), some (.int 7), some (eStd rt lt), some (.lst (ns.map D.int)), some (.int (i : Nat)), x7, x8] = some (.nx [some (.lst l3), some (eRc R), some (.int 0), some (.int 7), some (eStd rt lt), some (.lst (ns.map D.int)), some (.int (i : Nat)), some (.int (w : Nat)), x8]) := by simp [e3]
    have szl : (ns.length < sizeLine) = True := eq_true (sz' _ (by omega))
    have q3 : (sApp 5 (dV 8)) [some (.lst l4), some (eRc R), some (.int 0), some (.int 7), some (eStd rt lt), some (.lst (ns.map D.int)), some (.int (i : Nat)), some (.int (w : Nat)), some (.int n)] = some (.nx [some (.lst l4), some (eRc R), some (.int 0), some (.int 7), some (eStd rt lt), some (.lst ((ns ++ [n]).map D.int)), some (.int (i : Nat)), some (.int (w : Nat)), some (.int n)]) := by simp [szl]
    have ph := p_law_heard G hro lt n
    have q4 : (sSet 4 (dOp gIx (dCal 3 F_law_heard (aCons (dV 1) (aCons (dV 4) (aCons (dV 8) aNil)))) (dC (.int 1)))) [some (.lst l4), some (eRc R), some (.int 0), some (.int 7), some (eStd rt lt), some (.lst ((ns ++ [n]).map D.int)), some (.int (i : Nat)), some (.int (w : Nat)), some (.int n)] = some (.nx [some (.lst l4), some (eRc R), some (.int 0), some (.int 7), some (eStd (stepR R rt (n - lt)).2 (if (stepR R rt (n - lt)).1 then n else lt)), some (.lst ((ns ++ [n]).map D.int)), some (.int (i : Nat)), some (.int (w : Nat)), some (.int n)]) := by simp [ph]
    exact ⟨[some (.lst l'), some (eRc R), some (.int 0), some (.int 7), some (eStd rt lt), some (.lst (ns.map D.int)), some (.int (i : Nat)), x7, x8], _, by simp, (seq_nx q1).trans ((seq_nx e4).trans ((seq_nx q3).trans q4)), ns ++ [n], l4, _, _, _, _, _, rfl, s4, stepR_ok G hro _, by simp; omega⟩
/-! ### the first unlike answer -/
theorem p_first_unlike {A B : Rcv} (GA : Good A) (GB : Good B) (ns : List Int) (hl : ns.length ≤ 50) : ∃ d, F_law_first_unlike [eRc A, eRc B, .tup (ns.map D.int)] = some d ∧
    ((d = .non ∧ ans A ns (0, none) 0 = ans B ns (0, none) 0) ∨ ∃ i : Nat, d = .int (i : Nat) ∧ i < ns.length ∧ (ans A ns (0, none) 0)[i]? ≠ (ans B ns (0, none) 0)[i]? ∧ ∀ j, j < i → (ans A ns (0, none) 0)[j]? = (ans B ns (0, none) 0)[j]?) := by
  have pa := p_answers GA ns (by omega) 0
  have pb := p_answers GB ns (by omega) 0
  have la := ans_len A ns (0, none) 0
  have lb := ans_len B ns (0, none) 0
  generalize ans A ns (0, none) 0 = xs at *
  generalize ans B ns (0, none) 0 = ys at *
  have q1 : (sTg (dTup (aCons (dCalD 3 (.int 0) F_answers (aCons (dV 0) (aCons (dV 2) aNil))) (aCons (dCalD 3 (.int 0) F_answers (aCons (dV 1) (aCons (dV 2) aNil))) aNil))) (gT 2 (glC (gN 3) (glC (gN 4) glN)))) [some (eRc A), some (eRc B), some (.tup (ns.map D.int)), none, none, none, none] = some (.nx [some (eRc A), some (eRc B), some (.tup (ns.map D.int)), some (.tup (xs.map D.bl)), some (.tup (ys.map D.bl)), none, none]) := by simp [pa, pb]
  have c : lcL [6] (gN 6) (dT (dOp gNe (dOp gIx (dV 3) (dV 6)) (dOp gIx (dV 4) (dV 6)))) (dV 6) ((List.range ns.length).map fun i => D.int (i : Nat)) [some (eRc A), some (eRc B), some (.tup (ns.map D.int)), some (.tup (xs.map D.bl)), some (.tup (ys.map D.bl)), none, none] =
      some (((List.range ns.length).filter fun i => !decide (xs.getD i false = ys.getD i false)).map eN, [some (eRc A), some (eRc B), some (.tup (ns.map D.int)), some (.tup (xs.map D.bl)), some (.tup (ys.map D.bl)), none, none]) := by
    refine lc_fix (fun i : Nat => D.int (i : Nat)) (fun i => !decide (xs.getD i false = ys.getD i false)) eN (List.range ns.length) fun i hi => ⟨[some (eRc A), some (eRc B), some (.tup (ns.map D.int)), some (.tup (xs.map D.bl)), some (.tup (ys.map D.bl)), none, some (.int (i : Nat))], by simp, ?_, fun _ => by simp [eN], rfl⟩
    have hi' := List.mem_range.mp hi
    have x1 : (xs.map D.bl)[i]? = some (.bl (xs.getD i false)) := by rw [List.getElem?_map, List.getD_eq_getElem?_getD, List.getElem?_eq_getElem (by omega)]; rfl
    have x2 : (ys.map D.bl)[i]? = some (.bl (ys.getD i false)) := by rw [List.getElem?_map, List.getD_eq_getElem?_getD, List.getElem?_eq_getElem (by omega)]; rfl
    simp only [e_dT, e_dOp, e_dV, List.getElem?_cons_succ, List.getElem?_cons_zero, Option.bind_some, o_gIx_t, atI_nat, x1, x2, Option.map_some, q_bne]
  have szl : ((List.range ns.length).length < sizeLine) = True := eq_true (sz' _ (by rw [List.length_range]; omega))
  have hlr : lR (dCb gLen (aCons (dV 2) aNil)) [some (eRc A), some (eRc B), some (.tup (ns.map D.int)), some (.tup (xs.map D.bl)), some (.tup (ys.map D.bl)), none, none] = some ((List.range ns.length).map fun i => D.int (i : Nat), [some (eRc A), some (eRc B), some (.tup (ns.map D.int)), some (.tup (xs.map D.bl)), some (.tup (ys.map D.bl)), none, none]) := lR_ok (by simp) (by omega)
  generalize hF : (List.range ns.length).filter (fun i => !decide (xs.getD i false = ys.getD i false)) = F at c
  have q2 : (sSet 5 (dLc [] [6] (lR (dCb gLen (aCons (dV 2) aNil))) (gN 6) (dT (dOp gNe (dOp gIx (dV 3) (dV 6)) (dOp gIx (dV 4) (dV 6)))) (dV 6))) [some (eRc A), some (eRc B), some (.tup (ns.map D.int)), some (.tup (xs.map D.bl)), some (.tup (ys.map D.bl)), none, none] = some (.nx [some (eRc A), some (eRc B), some (.tup (ns.map D.int)), some (.tup (xs.map D.bl)), some (.tup (ys.map D.bl)), some (.lst (F.map eN)), none]) := by
    rw [e_sSet, e_dLc, hlr, Option.bind_some]
    simp only [List.length_map, szl, if_true, wipeD, List.set_cons_succ, List.set_cons_zero, c, Option.map_some]
    rfl
  have hst0 : startD 7 [eRc A, eRc B, .tup (ns.map D.int)] = [some (eRc A), some (eRc B), some (.tup (ns.map D.int)), none, none, none, none] := rfl
  have es : S_law_first_unlike [some (eRc A), some (eRc B), some (.tup (ns.map D.int)), none, none, none, none] = _ := (seq_nx q1).trans (seq_nx q2)
  rw [show F_law_first_unlike = runP 7 S_law_first_unlike from rfl, e_runP, hst0, es]
  have eqd : ∀ i, i < ns.length → (xs[i]? = ys[i]? ↔ xs.getD i false = ys.getD i false) := fun i hi => by
    rw [List.getD_eq_getElem?_getD, List.getD_eq_getElem?_getD, List.getElem?_eq_getElem (by omega), List.getElem?_eq_getElem (by omega)]
    simp
  cases F with
  | nil =>
    refine ⟨.non, rfl, .inl ⟨rfl, ?_⟩⟩
    refine List.ext_getElem? fun i => ?_
    by_cases hi : i < ns.length
    · rw [eqd i hi]
      rw [List.filter_eq_nil_iff] at hF
      have := hF i (List.mem_range.mpr hi)
      simpa using this
    · rw [List.getElem?_eq_none (by omega), List.getElem?_eq_none (by omega)]
  | cons i F =>
    refine ⟨.int (i : Nat), by simp [eN], .inr ⟨i, rfl, ?_⟩⟩
    have hm : i ∈ (List.range ns.length).filter (fun i => !decide (xs.getD i false = ys.getD i false)) := by rw [hF]; simp
    rw [List.mem_filter, List.mem_range] at hm
    refine ⟨hm.1, fun z => ?_, fun j hj => ?_⟩
    · have := (eqd i hm.1).mp z
      rw [this] at hm
      simp at hm
    · rw [eqd j (by omega)]
      by_cases z : xs.getD j false = ys.getD j false
      · exact z
      · exfalso
        have hjm : j ∈ (List.range ns.length).filter (fun i => !decide (xs.getD i false = ys.getD i false)) := by
          rw [List.mem_filter, List.mem_range]
          exact ⟨by omega, by simpa using z⟩
        have pw : List.Pairwise (fun a b => a < b) ((List.range ns.length).filter (fun i => !decide (xs.getD i false = ys.getD i false))) := List.Pairwise.filter _ List.pairwise_lt_range
        rw [hF] at hjm pw
        rcases List.mem_cons.mp hjm with q | q
        · omega
        · have := (List.pairwise_cons.mp pw).1 j q
          omega
end DL
end
section
set_option Elab.async false
set_option linter.all false
set_option maxRecDepth 100000
set_option maxHeartbeats 4000000
set_option autoImplicit false
/-! The plain law: a drawn row is answered unlike no sooner than parting tells. -/
namespace DL
open PySem PySem.Spec
open PyProof.Rows hiding St
open L2
/-- the answers of a row, and where it leads: free -/
theorem unlike_free {A B : Rcv} (GA : Good A) (GB : Good B) : ∀ (ns : List Int) (n : Nat) (rA rB : Rest) (last : Int) (i : Nat), RC false A B n (rA, rB, 0) → RO A.length rA → RO B.length rB → i < ns.length →
    (ans A ns rA last)[i]? ≠ (ans B ns rB last)[i]? → (∀ j, j < i → (ans A ns rA last)[j]? = (ans B ns rB last)[j]?) →
    ∃ c s, RC false A B (n + i) c ∧ s ∈ stepsR false c.2.2 ∧ cA A c s ≠ cB B c s ∧ (ans B ns rB last)[i]? = some (cB B c s)
  | [], _, _, _, _, i, _, _, _, hi, _, _ => by simp at hi
  | m :: ns, n, rA, rB, last, i, hr, oA, oB, hi, hne, heq => by
    have cA' := stepR_clp GA oA (m - last)
    have cB' := stepR_clp GB oB (m - last)
    have hs : clp (m - last) ∈ stepsR false (0 : Nat) := clp_mem _
    cases i with
    | zero =>
      refine ⟨(rA, rB, 0), clp (m - last), hr, hs, ?_, ?_⟩
      · intro e
        apply hne
        show some _ = some _
        unfold cA cB at e
        simp only at e
        rw [cA', cB', e]
      · show some _ = some _
        rw [cB']
        rfl
    | succ i =>
      have e0 := heq 0 (by omega)
      have e0' : (stepR A rA (m - last)).1 = (stepR B rB (m - last)).1 := Option.some.inj e0
      have hr' : RC false A B (n + 1) ((stepR A rA (m - last)).2, (stepR B rB (m - last)).2, 0) := by
        refine .succ hr ⟨clp (m - last), hs, ?_, ?_⟩
        · show (stepR A rA (clp (m - last))).1 = (stepR B rB (clp (m - last))).1
          rw [← cA', ← cB', e0']
        · show _ = ((stepR A rA (clp (m - last))).2, (stepR B rB (clp (m - last))).2, _)
          rw [← cA', ← cB']
          rfl
      have hne' : (ans A ns (stepR A rA (m - last)).2 (if (stepR A rA (m - last)).1 then m else last))[i]? ≠ (ans B ns (stepR B rB (m - last)).2 (if (stepR B rB (m - last)).1 then m else last))[i]? := hne
      rw [← e0'] at hne'
      obtain ⟨c, s, h1, h2, h3, h4⟩ := unlike_free GA GB ns (n + 1) _ _ (if (stepR A rA (m - last)).1 then m else last) i hr' (stepR_ok GA oA _) (stepR_ok GB oB _) (by simpa using hi) hne' fun j hj => by
        have := heq (j + 1) (by omega)
        have this : (ans A ns (stepR A rA (m - last)).2 (if (stepR A rA (m - last)).1 then m else last))[j]? = (ans B ns (stepR B rB (m - last)).2 (if (stepR B rB (m - last)).1 then m else last))[j]? := this
        rw [← e0'] at this
        exact this
      refine ⟨c, s, by rw [show n + (i + 1) = n + 1 + i by omega]; exact h1, h2, h3, ?_⟩
      show (ans B ns (stepR B rB (m - last)).2 (if (stepR B rB (m - last)).1 then m else last))[i]? = _
      rw [← e0']
      exact h4
/-- rising -/
theorem unlike_rising {A B : Rcv} (GA : Good A) (GB : Good B) : ∀ (ns : List Int) (n : Nat) (rA rB : Rest) (a : Nat) (last heard : Int) (i : Nat), RC true A B n (rA, rB, a) → RO A.length rA → RO B.length rB → last ≤ heard → (a : Int) = min (heard - last) 13 → asc heard ns = true → i < ns.length →
    (ans A ns rA last)[i]? ≠ (ans B ns rB last)[i]? → (∀ j, j < i → (ans A ns rA last)[j]? = (ans B ns rB last)[j]?) →
    ∃ c s, RC true A B (n + i) c ∧ s ∈ stepsR true c.2.2 ∧ cA A c s ≠ cB B c s ∧ (ans B ns rB last)[i]? = some (cB B c s)
  | [], _, _, _, _, _, _, i, _, _, _, _, _, _, hi, _, _ => by simp at hi
  | m :: ns, n, rA, rB, a, last, heard, i, hr, oA, oB, hle, ha, hasc, hi, hne, heq => by
    have cA' := stepR_clp GA oA (m - last)
    have cB' := stepR_clp GB oB (m - last)
    rw [asc, Bool.and_eq_true, decide_eq_true_eq] at hasc
    have hm := hasc.1
    have hs : clp (m - last) ∈ stepsR true a := by
      rw [mem_rising]
      unfold clp
      split
      · omega
      · split <;> omega
    cases i with
    | zero =>
      refine ⟨(rA, rB, a), clp (m - last), hr, hs, ?_, ?_⟩
      · intro e
        apply hne
        show some _ = some _
        unfold cA cB at e
        simp only at e
        rw [cA', cB', e]
      · show some _ = some _
        rw [cB']
        rfl
    | succ i =>
      have e0 := heq 0 (by omega)
      have e0' : (stepR A rA (m - last)).1 = (stepR B rB (m - last)).1 := Option.some.inj e0
      have hr' : RC true A B (n + 1) ((stepR A rA (m - last)).2, (stepR B rB (m - last)).2, ahd true a (clp (m - last)) (stepR A rA (m - last)).1) := by
        refine .succ hr ⟨clp (m - last), hs, ?_, ?_⟩
        · show (stepR A rA (clp (m - last))).1 = (stepR B rB (clp (m - last))).1
          rw [← cA', ← cB', e0']
        · show _ = ((stepR A rA (clp (m - last))).2, (stepR B rB (clp (m - last))).2, ahd true a (clp (m - last)) (stepR A rA (clp (m - last))).1)
          rw [← cA', ← cB']
      have ha' : ((ahd true a (clp (m - last)) (stepR A rA (m - last)).1 : Nat) : Int) = min (m - (if (stepR A rA (m - last)).1 then m else last)) 13 := by
        unfold ahd clp
        cases (stepR A rA (m - last)).1 with
        | true => simp; omega
        | false =>
          simp only [if_true, Bool.false_eq_true, if_false]
          split
          · omega
          · split <;> omega
      have hne' : (ans A ns (stepR A rA (m - last)).2 (if (stepR A rA (m - last)).1 then m else last))[i]? ≠ (ans B ns (stepR B rB (m - last)).2 (if (stepR B rB (m - last)).1 then m else last))[i]? := hne
      rw [← e0'] at hne'
      obtain ⟨c, s, h1, h2, h3, h4⟩ := unlike_rising GA GB ns (n + 1) _ _ _ (if (stepR A rA (m - last)).1 then m else last) m i hr' (stepR_ok GA oA _) (stepR_ok GB oB _) (by split <;> omega) ha' hasc.2 (by simpa using hi) hne' fun j hj => by
        have := heq (j + 1) (by omega)
        have this : (ans A ns (stepR A rA (m - last)).2 (if (stepR A rA (m - last)).1 then m else last))[j]? = (ans B ns (stepR B rB (m - last)).2 (if (stepR B rB (m - last)).1 then m else last))[j]? := this
        rw [← e0'] at this
        exact this
      refine ⟨c, s, by rw [show n + (i + 1) = n + 1 + i by omega]; exact h1, h2, h3, ?_⟩
      show (ans B ns (stepR B rB (m - last)).2 (if (stepR B rB (m - last)).1 then m else last))[i]? = _
      rw [← e0']
      exact h4
end DL
end
section
set_option Elab.async false
set_option linter.all false
set_option maxRecDepth 100000
set_option maxHeartbeats 4000000
set_option autoImplicit false
/-! The plain law: rows_right. -/
namespace DL
open PySem PySem.Spec
open PyProof.Rows hiding St
open L2
def bodyRr (FR FN : List D → List D → Option (D × List D)) (FF FA : List D → Option D) : SD := (sSeq (sSet 7 (dIf (dT (dV 3)) (dCS 0 2 FR (aCons (dC (.int 6)) aNil)) (dCS 0 4 FN (aCons (dV 1) (aCons (dC (.int 0)) (aCons (dC (.int 7)) aNil))))))
    (sSeq (sSet 8 (dCal 3 FF (aCons (dV 1) (aCons (dV 2) (aCons (dV 7) aNil)))))
    (sSeq (sIf (bAnd (dT (dOp gIsNot (dV 8) (dC .non))) (bOr (dT (dOp gIs (dV 4) (dC .non))) (dT (dOp gGt (dCb gLen (aCons (dV 4) aNil)) (dOp gAdd (dV 8) (dC (.int 1))))))) (sRet (dC (.bl false))) sNil)
    (sIf (bAnd (dT (dOp gIsNot (dV 8) (dC .non))) (bAnd (dT (dV 5)) (bNot (dT (dOp gIx (dCalD 3 (.int 0) FA (aCons (dV 2) (aCons (dV 7) aNil))) (dV 8)))))) (sRet (dC (.bl false))) sNil))))
theorem bodyRr_ok (FR FN : List D → List D → Option (D × List D)) (FF FA : List D → Option D) {up un : Bool} {A B pd v d : D} {l l' : List D} {x6 x7 x8 : Option D} (hn : (if up then FR l [.int 6] else FN l [A, .int 0, .int 7]) = some (v, l')) (hf : FF [A, B, v] = some d)
    (hd : d = .non ∨ ∃ (i : Nat) (rs bs : List D), d = .int (i : Nat) ∧ pd = .tup rs ∧ rs.length ≤ i + 1 ∧ FA [B, v, .int 0] = some (.tup bs) ∧ ∃ b : Bool, bs[i]? = some (.bl b) ∧ (un = true → b = true)) :
    bodyRr FR FN FF FA [some (.lst l), some A, some B, some (.bl up), some pd, some (.bl un), x6, x7, x8] = some (.nx [some (.lst l'), some A, some B, some (.bl up), some pd, some (.bl un), x6, some v, some d]) := by
  have q1 : (sSet 7 (dIf (dT (dV 3)) (dCS 0 2 FR (aCons (dC (.int 6)) aNil)) (dCS 0 4 FN (aCons (dV 1) (aCons (dC (.int 0)) (aCons (dC (.int 7)) aNil)))))) [some (.lst l), some A, some B, some (.bl up), some pd, some (.bl un), x6, x7, x8] = some (.nx [some (.lst l'), some A, some B, some (.bl up), some pd, some (.bl un), x6, some v, x8]) := by
    cases up with
    | true => simp at hn; simp [hn]
    | false => simp at hn; simp [hn]
  unfold bodyRr
  rw [seq_nx q1]
  rcases hd with rfl | ⟨i, rs, bs, rfl, rfl, hl, ha, b, hb, hu⟩
  · simp [hf]
  · have h1 : ((i : Int) + 1 < (rs.length : Int)) = False := eq_false (by omega)
    cases un with
    | false => simp [hf, h1]
    | true =>
      have hb' := hu rfl
      subst hb'
      simp [hf, h1, ha, hb]
open Classical in
theorem p_rows_right (up : Bool) {A B : Rcv} (GA : Good A) (GB : Good B) {l : List D} (h : SPr l) : ∃ l', F_law_rows_right l [eRc A, eRc B, .bl up] = some (.bl true, l') ∧ SPr l' := by
  have pb := p_below up GA GB
  -- what parting tells
  have pt : ∃ pd : D, F_parting [eRc A, eRc B, .bl up] = some pd ∧ ((pd = .non ∧ ¬ UN up A B) ∨ ∃ ns, Pt up A B ns ∧ pd = .tup (ns.map D.int)) := by
    rcases p_parting up GA GB with ⟨hu, e⟩ | ⟨hu, ns, hp, e⟩
    · exact ⟨_, e, .inl ⟨rfl, hu⟩⟩
    · exact ⟨_, e, .inr ⟨ns, hp, rfl⟩⟩
  obtain ⟨pd, ep, hpd⟩ := pt
  -- a drawn row
  have drawn : ∀ l, SPr l → ∃ (ns : List Int) (l' : List D), SPr l' ∧ ns.length ≤ 8 ∧ (up = true → asc 0 ns = true) ∧ (if up then F_law_rising l [.int 6] else F_law_numbers l [eRc A, .int 0, .int 7]) = some (.tup (ns.map D.int), l') := by
    intro l h
    cases up with
    | true =>
      obtain ⟨ns, l', h1, h2, h3, h4⟩ := p_rising h
      exact ⟨ns, l', h4, by omega, fun _ => h1, h3⟩
    | false =>
      obtain ⟨ns, l', h1, h2, h3⟩ := p_law_numbers GA h
      exact ⟨ns, l', h3, h1, fun z => (nomatch z), h2⟩
  have o0A : RO A.length (0, none) := ⟨GA.pos, fun g e => nomatch e⟩
  have o0B : RO B.length (0, none) := ⟨GB.pos, fun g e => nomatch e⟩
  have turn : ∀ (ns : List Int), ns.length ≤ 8 → (up = true → asc 0 ns = true) → ∃ d, F_law_first_unlike [eRc A, eRc B, .tup (ns.map D.int)] = some d ∧ (d = .non ∨ ∃ (i : Nat) (rs bs : List D), d = .int (i : Nat) ∧ pd = .tup rs ∧ rs.length ≤ i + 1 ∧ F_answers [eRc B, .tup (ns.map D.int), .int 0] = some (.tup bs) ∧ ∃ b : Bool, bs[i]? = some (.bl b) ∧ (decide (¬ OV up A B) = true → b = true)) := by
    intro ns hl hup
    obtain ⟨d, e, hd⟩ := p_first_unlike GA GB ns (by omega)
    refine ⟨d, e, ?_⟩
    rcases hd with ⟨rfl, _⟩ | ⟨i, rfl, hi, hne, heq⟩
    · exact .inl rfl
    · have key : ∃ c s, RC up A B (0 + i) c ∧ s ∈ stepsR up c.2.2 ∧ cA A c s ≠ cB B c s ∧ (ans B ns (0, none) 0)[i]? = some (cB B c s) := by
        cases up with
        | false => exact unlike_free GA GB ns 0 (0, none) (0, none) 0 i .zero o0A o0B hi hne heq
        | true => exact unlike_rising GA GB ns 0 (0, none) (0, none) 0 0 0 i .zero o0A o0B (Int.le_refl _) rfl (hup rfl) hi hne heq
      obtain ⟨c, s, hc, hs, hab, hb⟩ := key
      rw [Nat.zero_add] at hc
      have hu : UN up A B := ⟨i, c, hc, s, hs, hab⟩
      rcases hpd with ⟨_, hn⟩ | ⟨rs, hp, rfl⟩
      · exact absurd hu hn
      · refine .inr ⟨i, _, _, rfl, rfl, by rw [List.length_map]; exact hp.min i c hc ⟨s, hs, hab⟩, p_answers GB ns (by omega) 0, cB B c s, by rw [List.getElem?_map, hb]; rfl, fun hov => ?_⟩
        have hov := of_decide_eq_true hov
        cases hcb : cB B c s with
        | true => rfl
        | false =>
          cases hca : cA A c s with
          | false => rw [hca, hcb] at hab; exact absurd rfl hab
          | true => exact absurd ⟨i, c, hc, s, hs, hca, hcb⟩ hov
  have f := sFor_nx (fun i : Nat => D.int (i : Nat)) (g := gN 6) (b := bodyRr F_law_rising F_law_numbers F_law_first_unlike F_answers)
    (fun r ρ => ∃ (l' : List D) (x6 x7 x8 : Option D), ρ = [some (.lst l'), some (eRc A), some (eRc B), some (.bl up), some pd, some (.bl (decide (¬ OV up A B))), x6, x7, x8] ∧ SPr l') ?_ (List.range 4)
    [some (.lst l), some (eRc A), some (eRc B), some (.bl up), some pd, some (.bl (decide (¬ OV up A B))), none, none, none] ⟨l, none, none, none, rfl, h⟩
  · obtain ⟨ρ', e, l', x6, x7, x8, rfl, s'⟩ := f
    refine ⟨l', ?_, s'⟩
    have q1 : (sPar 4 5 (aCons (dCalN 2 F_parting (aCons (dV 1) (aCons (dV 2) aNil)) (dV 3)) (aCons (dCalN 2 F_below (aCons (dV 1) (aCons (dV 2) aNil)) (dV 3)) aNil))) [some (.lst l), some (eRc A), some (eRc B), some (.bl up), none, none, none, none, none] = some (.nx [some (.lst l), some (eRc A), some (eRc B), some (.bl up), some pd, some (.bl (decide (¬ OV up A B))), none, none, none]) := by
      generalize F_parting = FP at *
      generalize F_below = FB at *
      simp only [e_sPar, e_aCons, e_dCalN, e_aNil, e_dV, List.getElem?_cons_succ, List.getElem?_cons_zero, Option.bind_some, Option.map_some, List.length_cons, List.length_nil, List.cons_append, List.nil_append, ep, pb, if_true]
      rfl
    have hlr : lR (dC (.int 4)) [some (.lst l), some (eRc A), some (eRc B), some (.bl up), some pd, some (.bl (decide (¬ OV up A B))), none, none, none] = some ((List.range 4).map fun i => D.int (i : Nat), [some (.lst l), some (eRc A), some (eRc B), some (.bl up), some pd, some (.bl (decide (¬ OV up A B))), none, none, none]) := lR_ok (n := 4) rfl (by omega)
    have q2 : sFor (lR (dC (.int 4))) (gN 6) (bodyRr F_law_rising F_law_numbers F_law_first_unlike F_answers) [some (.lst l), some (eRc A), some (eRc B), some (.bl up), some pd, some (.bl (decide (¬ OV up A B))), none, none, none] = some (.nx [some (.lst l'), some (eRc A), some (eRc B), some (.bl up), some pd, some (.bl (decide (¬ OV up A B))), x6, x7, x8]) := by
      rw [e_sFor, hlr, Option.bind_some, e]
    unfold bodyRr at q2
    have hst0 : startD 9 (.lst l :: [eRc A, eRc B, .bl up]) = [some (.lst l), some (eRc A), some (eRc B), some (.bl up), none, none, none, none, none] := rfl
    have es : S_law_rows_right [some (.lst l), some (eRc A), some (eRc B), some (.bl up), none, none, none, none, none] = _ := (seq_nx q1).trans (seq_nx q2)
    rw [show F_law_rows_right = runS 9 S_law_rows_right from rfl, e_runS, hst0, es]
    rcases hpd with ⟨rfl, _⟩ | ⟨ns, hp, rfl⟩
    · simp
    · have ph := p_holds up GA GB hp
      simp [ph]
  · rintro i r ρ ⟨l', x6, x7, x8, rfl, s'⟩
    obtain ⟨ns, l2, s2, hl, hup, hn⟩ := drawn l' s'
    obtain ⟨d, hf, hd⟩ := turn ns hl hup
    exact ⟨[some (.lst l'), some (eRc A), some (eRc B), some (.bl up), some pd, some (.bl (decide (¬ OV up A B))), some (.int (i : Nat)), x7, x8], _, by simp, bodyRr_ok F_law_rising F_law_numbers F_law_first_unlike F_answers hn hf hd, l2, _, _, _, rfl, s2⟩
end DL
end
section
set_option Elab.async false
set_option linter.all false
set_option maxRecDepth 100000
set_option maxHeartbeats 4000000
set_option autoImplicit false
/-! The plain law: the spring. -/
namespace DL
open PySem PySem.Spec
open PyProof.Rows hiding St
open L2
theorem mo4 (x : Int) : mulOk 2 x = true := by
  unfold mulOk
  rw [decide_eq_true (show -(2 ^ 64) < (2 : Int) ∧ (2 : Int) < 2 ^ 64 by decide)]
  rfl
theorem mo5 (x : Int) : mulOk x 6364136223846793005 = true := by
  unfold mulOk
  rw [decide_eq_true (show -(2 ^ 64) < (6364136223846793005 : Int) ∧ (6364136223846793005 : Int) < 2 ^ 64 by decide), Bool.or_true]
theorem mo6 (x : Int) : mulOk x 37 = true := by
  unfold mulOk
  rw [decide_eq_true (show -(2 ^ 64) < (37 : Int) ∧ (37 : Int) < 2 ^ 64 by decide), Bool.or_true]
theorem pow18 : gPow (.int 10) (.int 18) = some (.int 1000000000000000000) := by
  show (if 0 ≤ (18 : Int) ∧ (18 : Int) ≤ 1000000 ∧ (10 : Int).natAbs < 2 ^ 64 then some (D.int ((10 : Int) ^ (18 : Int).toNat)) else none) = _
  rw [if_pos (by decide), show ((10 : Int) ^ (18 : Int).toNat) = 1000000000000000000 by decide]
def bodySp : SD := (sSeq (sSet 4 (dOp gAdd (dOp gAdd (dOp gMul (dC (.int 2)) (dCb gAbs (aCons (dV 3) aNil))) (dCb gInt (aCons (dOp gLt (dV 3) (dC (.int 0))) aNil))) (dC (.int 1))))
    (sSeq (sSet 2 (dOp gMod (dCb gInt (aCons (dOp gAdd (dOp gMul (dV 2) (dC (.int 6364136223846793005))) (dV 4)) aNil)) (dC (.int 2305843009213693951))))
    (sIf (dT (dOp gGe (dCb gAbs (aCons (dV 3) aNil)) (dOp gPow (dC (.int 10)) (dC (.int 18))))) (sSet 1 (dOp gAdd (dOp gMul (dV 1) (dC (.int 37))) (dCb gAbs (aCons (dV 3) aNil)))) sNil)))
theorem bodySp_ok (S : D) (g m c : Int) (x4 : Option D) : ∃ (g' m' : Int) (y4 : Option D), 0 ≤ m' ∧ m' < 2305843009213693951 ∧ bodySp [some S, some (.int g), some (.int m), some (.int c), x4] = some (.nx [some S, some (.int g'), some (.int m'), some (.int c), y4]) := by
  obtain ⟨a, ha⟩ : ∃ a : Int, gAbs [.int c] = some (.int a) := ⟨_, rfl⟩
  obtain ⟨b, hb⟩ : ∃ b : Int, gInt [.bl (decide (c < 0))] = some (.int b) := ⟨_, rfl⟩
  have q1 : (sSet 4 (dOp gAdd (dOp gAdd (dOp gMul (dC (.int 2)) (dCb gAbs (aCons (dV 3) aNil))) (dCb gInt (aCons (dOp gLt (dV 3) (dC (.int 0))) aNil))) (dC (.int 1)))) [some S, some (.int g), some (.int m), some (.int c), x4] = some (.nx [some S, some (.int g), some (.int m), some (.int c), some (.int (2 * a + b + 1))]) := by
    simp [-o_gAbs, -o_gInt_b, ha, hb, mo4]
  have q2 : (sSet 2 (dOp gMod (dCb gInt (aCons (dOp gAdd (dOp gMul (dV 2) (dC (.int 6364136223846793005))) (dV 4)) aNil)) (dC (.int 2305843009213693951)))) [some S, some (.int g), some (.int m), some (.int c), some (.int (2 * a + b + 1))] = some (.nx [some S, some (.int g), some (.int ((m * 6364136223846793005 + (2 * a + b + 1)) % 2305843009213693951)), some (.int c), some (.int (2 * a + b + 1))]) := by
    simp [mo5]
  have n0 := Int.emod_nonneg (m * 6364136223846793005 + (2 * a + b + 1)) (show (2305843009213693951 : Int) ≠ 0 by decide)
  have n1 := Int.emod_lt_of_pos (m * 6364136223846793005 + (2 * a + b + 1)) (show (0 : Int) < 2305843009213693951 by decide)
  unfold bodySp
  rw [seq_nx q1, seq_nx q2]
  generalize (m * 6364136223846793005 + (2 * a + b + 1)) % 2305843009213693951 = M at *
  by_cases h : 1000000000000000000 ≤ a
  · exact ⟨g * 37 + a, M, _, n0, n1, by simp [-o_gAbs, ha, pow18, h, mo6]; rfl⟩
  · exact ⟨g, M, _, n0, n1, by simp [-o_gAbs, ha, pow18, h]; rfl⟩
theorem p_spring (ns : List Int) : ∃ l, F_law_spring [.opq ns] = some l ∧ SPr l := by
  have f := sFor_nx D.int (g := gN 3) (b := bodySp)
    (fun r ρ => ∃ (g m : Int) (x3 x4 : Option D), ρ = [some (.opq ns), some (.int g), some (.int m), x3, x4] ∧ 0 ≤ m ∧ m < 2305843009213693951) ?_ (ns.take 63) [some (.opq ns), some (.int 0), some (.int 2925), none, none] ⟨0, 2925, none, none, rfl, by decide, by decide⟩
  · obtain ⟨ρ', e, g, m, x3, x4, rfl, h0, h1⟩ := f
    refine ⟨[.int g, .int m, .int 0], ?_, g, m, 0, rfl, h0, h1⟩
    have hc : cutD ns none (some 63) = ns.take 63 := cutD_to ns 63
    unfold F_law_spring runF
    rw [← bodySp]
    simp [startD, hc]
    simp at e
    rw [e]
    simp
  · rintro c r ρ ⟨g, m, x3, x4, rfl, h0, h1⟩
    obtain ⟨g', m', y4, a0, a1, e⟩ := bodySp_ok (.opq ns) g m c x4
    exact ⟨[some (.opq ns), some (.int g), some (.int m), some (.int c), x4], _, by simp, e, g', m', _, y4, rfl, a0, a1⟩
end DL
end
section
set_option Elab.async false
set_option linter.all false
set_option maxRecDepth 100000
set_option maxHeartbeats 4000000
set_option autoImplicit false
/-! The plain law: the law. -/
namespace DL
open PySem PySem.Spec
open PyProof.Rows hiding St
open L2
section
variable (FT FD FW FS FR : List D → List D → Option (D × List D)) (F2 FB : List D → Option D)
def lw1 : SD := sTg (dCS 1 3 FT (aCons (dC (.int 3)) (aCons (dC (.int 4)) aNil))) (gTl 2 (glC (gN 3) (glC (gN 4) glN)))
def lw2 : SD := sSet 4 (dIf (dT (dOp gEq (dCS 1 2 FD (aCons (dC (.int 2)) aNil)) (dC (.int 0)))) (dCS 1 2 FW (aCons (dV 4) aNil)) (dV 4))
def lw3 : SD := sSet 5 (dCS 1 2 FW (aCons (dCS 1 2 FS (aCons (dV 4) aNil)) aNil))
def lw4 : SD := sFor (lL (dLst (aCons (dTup (aCons (dV 3) (aCons (dV 4) aNil))) (aCons (dTup (aCons (dV 4) (aCons (dV 5) aNil))) (aCons (dTup (aCons (dV 5) (aCons (dV 3) aNil))) aNil))))) (gN 6) (sIf (bOr (bNot (dT (dCal 2 F2 (aCons (dOp gIx (dV 6) (dC (.int 0))) (aCons (dOp gIx (dV 6) (dC (.int 1))) aNil))))) (bNot (dT (dCS 1 4 FR (aCons (dOp gIx (dV 6) (dC (.int 0))) (aCons (dOp gIx (dV 6) (dC (.int 1))) (aCons (dOp gEq (dV 2) (dC (.int 1))) aNil))))))) (sRet (dC (.bl false))) sNil)
def lw5 : SD := sFor (lL (dLst (aCons (dC (.bl false)) (aCons (dC (.bl true)) aNil)))) (gN 7) (sSeq (sIf (bNot (dT (dCalN 2 FB (aCons (dV 4) (aCons (dV 5) aNil)) (dV 7)))) (sRet (dC (.bl false))) sNil)
    (sIf (bAnd (dT (dCalN 2 FB (aCons (dV 3) (aCons (dV 4) aNil)) (dV 7))) (bNot (dT (dCalN 2 FB (aCons (dV 3) (aCons (dV 5) aNil)) (dV 7))))) (sRet (dC (.bl false))) sNil))
theorem lw5_ok {S l t A B C x6 x7 : Option D} {a b c : D} (hA : A = some a) (hB : B = some b) (hC : C = some c) (k1 : ∀ u : Bool, FB [b, c, .bl u] = some (.bl true)) (k2 : ∀ u : Bool, ∃ p q : Bool, FB [a, b, .bl u] = some (.bl p) ∧ FB [a, c, .bl u] = some (.bl q) ∧ (p = true → q = true)) :
    lw5 FB [S, l, t, A, B, C, x6, x7] = some (.nx [S, l, t, A, B, C, x6, some (.bl true)]) := by
  subst hA hB hC
  obtain ⟨p, q, e1, e2, h1⟩ := k2 false
  obtain ⟨p', q', e1', e2', h1'⟩ := k2 true
  have f1 := k1 false
  have f2 := k1 true
  cases p with
  | false =>
    cases p' with
    | false => simp [lw5, sFL_cons, sFL_nil, f1, f2, e1, e1']
    | true => have := h1' rfl; subst this; simp [lw5, sFL_cons, sFL_nil, f1, f2, e1, e1', e2']
  | true =>
    have := h1 rfl
    subst this
    cases p' with
    | false => simp [lw5, sFL_cons, sFL_nil, f1, f2, e1, e2, e1']
    | true => have := h1' rfl; subst this; simp [lw5, sFL_cons, sFL_nil, f1, f2, e1, e2, e1', e2']
theorem lw4_ok {S : Option D} {l0 : List D} {t : Nat} {a b c : D} {x6 x7 : Option D} {l1 l2 l3 : List D} (h2 : F2 [a, b] = some (.bl true) ∧ F2 [b, c] = some (.bl true) ∧ F2 [c, a] = some (.bl true)) (r1 : FR l0 [a, b, .bl (decide ((t : Int) = 1))] = some (.bl true, l1)) (r2 : FR l1 [b, c, .bl (decide ((t : Int) = 1))] = some (.bl true, l2)) (r3 : FR l2 [c, a, .bl (decide ((t : Int) = 1))] = some (.bl true, l3)) :
    lw4 FR F2 [S, some (.lst l0), some (.int (t : Nat)), some a, some b, some c, x6, x7] = some (.nx [S, some (.lst l3), some (.int (t : Nat)), some a, some b, some c, some (.tup [c, a]), x7]) := by
  obtain ⟨g1, g2, g3⟩ := h2
  generalize hk : decide ((t : Int) = 1) = K at *
  have hq : gEq (.int (t : Nat)) (.int 1) = some (.bl K) := by rw [q_int, hk]
  simp [-q_int, lw4, sFL_cons, sFL_nil, g1, g2, g3, hq, r1, r2, r3]
end
end DL
end
section
set_option Elab.async false
set_option linter.all false
set_option maxRecDepth 100000
set_option maxHeartbeats 4000000
set_option autoImplicit false
/-! The plain law: the law answers true. -/
namespace DL
open PySem PySem.Spec
open PyProof.Rows hiding St
open L2
def bodyLw (FT FD FW FS FR : List D → List D → Option (D × List D)) (F2 FB : List D → Option D) : SD := sSeq (lw1 FT) (sSeq (lw2 FD FW) (sSeq (lw3 FW FS) (sSeq (lw4 FR F2) (lw5 FB))))
theorem lw1_ok (FT : List D → List D → Option (D × List D)) {S t x3 x4 x5 x6 x7 : Option D} {l l1 : List D} {a b : D} (h : FT l [.int 3, .int 4] = some (.lst [a, b], l1)) : lw1 FT [S, some (.lst l), t, x3, x4, x5, x6, x7] = some (.nx [S, some (.lst l1), t, some a, some b, x5, x6, x7]) := by
  simp [lw1, h]
theorem lw3_ok (FW FS : List D → List D → Option (D × List D)) {S t A x5 x6 x7 : Option D} {l l1 l2 : List D} {b c d : D} (h1 : FS l [b] = some (d, l1)) (h2 : FW l1 [d] = some (c, l2)) : lw3 FW FS [S, some (.lst l), t, A, some b, x5, x6, x7] = some (.nx [S, some (.lst l2), t, A, some b, some c, x6, x7]) := by
  simp [lw3, h1, h2]
theorem lw2_ok (FD FW : List D → List D → Option (D × List D)) {S t A x5 x6 x7 : Option D} {l l1 l2 : List D} {b c : D} {v : Nat} (h1 : FD l [.int 2] = some (.int (v : Nat), l1)) (h2 : FW l1 [b] = some (c, l2)) :
    lw2 FD FW [S, some (.lst l), t, A, some b, x5, x6, x7] = some (.nx (if v = 0 then [S, some (.lst l2), t, A, some c, x5, x6, x7] else [S, some (.lst l1), t, A, some b, x5, x6, x7])) := by
  by_cases hv : v = 0
  · subst hv
    simp at h1
    simp [lw2, h1, h2]
  · have i0 : ((v : Int) = 0) = False := eq_false (by omega)
    simp [lw2, h1, hv, i0]
open Classical in
theorem turn_ok (S : Option D) {l : List D} (h : SPr l) (t : Nat) (x3 x4 x5 x6 x7 : Option D) : ∃ (l' : List D) (y3 y4 y5 y6 y7 : Option D), SPr l' ∧
    bodyLw F_law_two F_law_dip F_law_wider F_law_shaped F_law_rows_right F_law_two_right F_below [S, some (.lst l), some (.int (t : Nat)), x3, x4, x5, x6, x7] = some (.nx [S, some (.lst l'), some (.int (t : Nat)), y3, y4, y5, y6, y7]) := by
  obtain ⟨A, B0, l1, GA, GB0, e1, s1⟩ := p_two h
  obtain ⟨v, l2, e2, hv, s2⟩ := p_dip s1 (n := 2) (by decide) (by decide)
  obtain ⟨B1, l3, GB1, e3, s3, _⟩ := p_wider GB0 s2
  -- the other one
  have ot : ∃ (B : Rcv) (lb : List D), Good B ∧ SPr lb ∧ lw2 F_law_dip F_law_wider [S, some (.lst l1), some (.int (t : Nat)), some (eRc A), some (eRc B0), x5, x6, x7] = some (.nx [S, some (.lst lb), some (.int (t : Nat)), some (eRc A), some (eRc B), x5, x6, x7]) := by
    have q := lw2_ok F_law_dip F_law_wider (S := S) (t := some (.int (t : Nat))) (A := some (eRc A)) (x5 := x5) (x6 := x6) (x7 := x7) e2 e3
    by_cases hv0 : v = 0
    · rw [if_pos hv0] at q
      exact ⟨B1, l3, GB1, s3, q⟩
    · rw [if_neg hv0] at q
      exact ⟨B0, l2, GB0, s2, q⟩
  obtain ⟨B, lb, GB, sb, q2⟩ := ot
  obtain ⟨X, l4, GX, e4, s4, hX⟩ := p_shaped GB sb
  obtain ⟨C, l5, GC, e5, s5, hC⟩ := p_wider GX s4
  have bc : ∀ u, ¬ OV u B C := fun u => OV.trans (fun z => hX u z.un) (hC u)
  obtain ⟨m1, r1, u1⟩ := p_rows_right (decide ((t : Int) = 1)) GA GB s5
  obtain ⟨m2, r2, u2⟩ := p_rows_right (decide ((t : Int) = 1)) GB GC u1
  obtain ⟨m3, r3, u3⟩ := p_rows_right (decide ((t : Int) = 1)) GC GA u2
  have q1 := lw1_ok F_law_two (S := S) (t := some (.int (t : Nat))) (x3 := x3) (x4 := x4) (x5 := x5) (x6 := x6) (x7 := x7) e1
  have q3 := lw3_ok F_law_wider F_law_shaped (S := S) (t := some (.int (t : Nat))) (A := some (eRc A)) (x5 := x5) (x6 := x6) (x7 := x7) e4 e5
  have q4 := lw4_ok F_law_rows_right F_law_two_right (S := S) (x6 := x6) (x7 := x7) ⟨p_two_right GA GB, p_two_right GB GC, p_two_right GC GA⟩ r1 r2 r3
  have q5 := lw5_ok F_below (S := S) (l := some (.lst m3)) (t := some (.int (t : Nat))) (x6 := some (.tup [eRc C, eRc A])) (x7 := x7) (A := some (eRc A)) (B := some (eRc B)) (C := some (eRc C)) rfl rfl rfl
    (fun u => by rw [p_below u GB GC, decide_eq_true (bc u)])
    (fun u => ⟨_, _, p_below u GA GB, p_below u GA GC, fun z => decide_eq_true (OV.trans (of_decide_eq_true z) (bc u))⟩)
  exact ⟨m3, _, _, _, _, _, u3, (seq_nx q1).trans ((seq_nx q2).trans ((seq_nx q3).trans ((seq_nx q4).trans q5)))⟩
theorem law_plain (ns : List Int) : F_law [.opq ns] = some (.bl true) := by
  obtain ⟨l, e, s⟩ := p_spring ns
  have f := sFor_nx (fun i : Nat => D.int (i : Nat)) (g := gN 2) (b := bodyLw F_law_two F_law_dip F_law_wider F_law_shaped F_law_rows_right F_law_two_right F_below)
    (fun r ρ => ∃ (l' : List D) (x2 x3 x4 x5 x6 x7 : Option D), ρ = [some (.opq ns), some (.lst l'), x2, x3, x4, x5, x6, x7] ∧ SPr l') ?_ (List.range 2) [some (.opq ns), some (.lst l), none, none, none, none, none, none] ⟨l, none, none, none, none, none, none, rfl, s⟩
  · obtain ⟨ρ', ef, l', x2, x3, x4, x5, x6, x7, rfl, s'⟩ := f
    have q0 : (sSet 1 (dCalF 1 F_law_spring (aCons (dV 0) aNil))) [some (.opq ns), none, none, none, none, none, none, none] = some (.nx [some (.opq ns), some (.lst l), none, none, none, none, none, none]) := by
      generalize F_law_spring = FS at *
      simp [e]
    have hlr : lR (dC (.int 2)) [some (.opq ns), some (.lst l), none, none, none, none, none, none] = some ((List.range 2).map fun i => D.int (i : Nat), [some (.opq ns), some (.lst l), none, none, none, none, none, none]) := lR_ok (n := 2) rfl (by omega)
    have q1 : sFor (lR (dC (.int 2))) (gN 2) (bodyLw F_law_two F_law_dip F_law_wider F_law_shaped F_law_rows_right F_law_two_right F_below) [some (.opq ns), some (.lst l), none, none, none, none, none, none] = some (.nx [some (.opq ns), some (.lst l'), x2, x3, x4, x5, x6, x7]) := by
      rw [e_sFor, hlr, Option.bind_some, ef]
    unfold bodyLw lw1 lw2 lw3 lw4 lw5 at q1
    have hst0 : startD 8 [.opq ns] = [some (.opq ns), none, none, none, none, none, none, none] := rfl
    have es : S_law [some (.opq ns), none, none, none, none, none, none, none] = _ := (seq_nx q0).trans (seq_nx q1)
    rw [show F_law = runP 8 S_law from rfl, e_runP, hst0, es]
    rfl
  · rintro i r ρ ⟨l', x2, x3, x4, x5, x6, x7, rfl, s'⟩
    obtain ⟨l2, y3, y4, y5, y6, y7, s2, e2⟩ := turn_ok (some (.opq ns)) s' i x3 x4 x5 x6 x7
    exact ⟨[some (.opq ns), some (.lst l'), some (.int (i : Nat)), x3, x4, x5, x6, x7], _, by simp, e2, l2, _, _, _, _, _, _, rfl, s2⟩
end DL
end
section
set_option Elab.async false
set_option linter.all false
set_option maxRecDepth 100000
set_option maxHeartbeats 0
/-! The head: what the top leaves. -/
namespace DL
open PySem PySem.Spec
open PyProof.Rows hiding St
open L2
def names0 : List PySem.Str := [(PySem.Str.ofString "MAX_BOUND"), (PySem.Str.ofString "greater"), (PySem.Str.ofString "lesser"), (PySem.Str.ofString "place_of"), (PySem.Str.ofString "merged"), (PySem.Str.ofString "in_order"), (PySem.Str.ofString "is_integer"), (PySem.Str.ofString "FAR"), (PySem.Str.ofString "rest_of"), (PySem.Str.ofString "lies_in"), (PySem.Str.ofString "counting_row"), (PySem.Str.ofString "step_from"), (PySem.Str.ofString "all_steps"), (PySem.Str.ofString "rests_met"), (PySem.Str.ofString "table_of"), (PySem.Str.ofString "classes_of"), (PySem.Str.ofString "runs_of"), (PySem.Str.ofString "least_of"), (PySem.Str.ofString "form_of"), (PySem.Str.ofString "run_at"), (PySem.Str.ofString "hear"), (PySem.Str.ofString "beginning"), (PySem.Str.ofString "walked"), (PySem.Str.ofString "answers"), (PySem.Str.ofString "next_steps"), (PySem.Str.ofString "ahead_behind"), (PySem.Str.ofString "Node"), (PySem.Str.ofString "numbers_by"), (PySem.Str.ofString "nodes_from"), (PySem.Str.ofString "all_nodes"), (PySem.Str.ofString "parting"), (PySem.Str.ofString "alike"), (PySem.Str.ofString "is_rising"), (PySem.Str.ofString "are_numbers")]
def names1 : List PySem.Str := [(PySem.Str.ofString "parting_holds"), (PySem.Str.ofString "keys_behind"), (PySem.Str.ofString "below"), (PySem.Str.ofString "pairs_behind"), (PySem.Str.ofString "pairs_met"), (PySem.Str.ofString "pairing_of"), (PySem.Str.ofString "is_rest"), (PySem.Str.ofString "is_pair"), (PySem.Str.ofString "pairing_holds"), (PySem.Str.ofString "_law_spring"), (PySem.Str.ofString "_law_dip"), (PySem.Str.ofString "_law_pick"), (PySem.Str.ofString "_law_range"), (PySem.Str.ofString "_law_row"), (PySem.Str.ofString "_law_window"), (PySem.Str.ofString "_law_paired"), (PySem.Str.ofString "_law_receiver"), (PySem.Str.ofString "_law_lies"), (PySem.Str.ofString "_law_counting"), (PySem.Str.ofString "_law_step"), (PySem.Str.ofString "_law_rest"), (PySem.Str.ofString "_law_heard"), (PySem.Str.ofString "_law_numbers"), (PySem.Str.ofString "_law_swapped"), (PySem.Str.ofString "_law_led"), (PySem.Str.ofString "_law_shaped"), (PySem.Str.ofString "_law_varied"), (PySem.Str.ofString "_law_rising"), (PySem.Str.ofString "_law_two"), (PySem.Str.ofString "_law_wider"), (PySem.Str.ofString "_law_first_unlike"), (PySem.Str.ofString "_law_rows_right"), (PySem.Str.ofString "_law_two_right")]
def names : List PySem.Str := names0 ++ names1
abbrev RwO : PySem.W.OpenRow := PySem.W.OpenLaw.row PySem.Challenge.rw_lateposts_k23_whole_order_of_receivers
abbrev hk : PySem.W.Hook := He.hookD 4 fal fnl
def ob (s : PySem.W.SharedT) : He.AlD := He.obsDG 4 fal fnl (HandSHeadRun.getT s)
theorem ob_eq (s : PySem.W.SharedT) : ob s = hk.obs s.abs := He.obsDG_eq (HandSHeadRun.getT_eq s)
theorem run (w : World) : HandSHeadRun.RunEq RwO (PySem.W.view RwO.prog [75]) hk ob 8000 names w := by
  intro os
  kernel_rfl
end DL
end
section
set_option Elab.async false
set_option linter.all false
set_option maxRecDepth 100000
set_option maxHeartbeats 0
/-! The end: from the plain law to the row. -/
namespace DL
open PySem PySem.Spec
open PyProof.Rows hiding St
open L2
abbrev gOf (P : Program) (w : World) (K : PySem.W.Frag) : Gp := ⟨P, w, He.ga K "Node", K⟩
theorem spOf {G : Gp} {H : Hp} {a : Addr} {ns : List Int} (hS : SqL G.K H a (ns.map V.int)) (e : F_law [.opq ns] = some (.bl true)) : spP G 1 F_law [.ref a] H (fun v _ => v = .bl true) fun _ _ _ => False :=
  ⟨fun _ => True, [.opq ns], .bl true, ⟨_, [], rfl, seq_opq hS trivial, rfl⟩, rfl, e, fun v H' _ s => s⟩
theorem facts {P : Program} {w : World} {K : PySem.W.Frag} {h : Heap} {mg : Str → Option Value} {f : Addr} (X : K.In h) (G : h.Ns mainGlobals mg) (hfa : mg ("law" : Str) = some (.ref f)) (c : He.SaysD fal fnl K) :
    ∃ fd : FuncData, (∀ (s : Shared) (v : Value), BindsTo s fd ⟨[v], []⟩ [("_law_script", v)]) ∧ ∀ base : Heap, K.In base → base.Ns mainGlobals mg → FnOk P w K mg base CX0 10 f fd ["_law_script"] (spP ⟨P, w, He.ga K "Node", K⟩ 1 F_law) := by
  have C : ∀ base, Cm P w K mg base ⟨P, w, He.ga K "Node", K⟩ := fun base => ⟨c, fun q => He.glo_ok X G q, fun q => He.free_ok X G q, fun q => He.int_ok X G q, ⟨rfl, rfl⟩, rfl, rfl⟩
  obtain ⟨fd, Fu⟩ := c.def_ 66 (d := d_law) rfl
  have e := hfa.symm.trans (C h).g_law
  cases e
  have b := FunD.bindsA (ps := ["_law_script"]) Fu fun _ _ _ _ _ _ us hl => match us, hl with | [_], _ => rfl
  exact ⟨fd, fun s v => b s [v] rfl, fun base _ _ => fn_p (st := s_law) (N := N_law) Fu sc_law (b_law (C base))⟩
end DL
open PySem PySem.W PySem.Calls PyProof.Rows
theorem DL.fin (hp : ∀ ns : List Int, ns.length ≤ 63 → DL.F_law [.opq ns] = some (.bl true)) : PySem.Challenge.rw_lateposts_k23_whole_order_of_receivers.Holds := by
  w_on; o_law
  refine HandSHeadRun.head_any (r := OpenLaw.row PySem.Challenge.rw_lateposts_k23_whole_order_of_receivers) (q := view (OpenLaw.row PySem.Challenge.rw_lateposts_k23_whole_order_of_receivers).prog [75]) (H := DL.hk) (ob := DL.ob) (M := 8000) (loose := DL.names) (d := HandSHeadRun.topDef (OpenLaw.row PySem.Challenge.rw_lateposts_k23_whole_order_of_receivers).prog 75) (kwd := []) DL.ob_eq
    (by kernel_rfl) (fun s => by kernel_rfl) DL.run (by kernel_rfl) (by kernel_rfl) (by kernel_rfl) (by rfl) (by first | assumption | decide +kernel) (by decide +kernel) ⟨rfl, rfl, rfl, rfl, rfl, by decide +kernel⟩ ?hw ?hc
  case hw => w_witness2
  case hc =>
    refine L2.walk_ofE (l := PySem.Challenge.rw_lateposts_k23_whole_order_of_receivers) (n := 63) (k := 10) (x := "_law_script") (CX := L2.CX0) rfl (by decide) (by kernel_rfl) ⟨rfl, by decide, by decide⟩ ?F (fun _ _ _ _ z => z)
    intro w mg fa h Y G hmg0
    obtain ⟨K, KX, c⟩ := Y
    have hmg : mg ("law" : PySem.Str) = some (.ref fa) := by
      have e : (HandSHeadRun.topDef (OpenLaw.row PySem.Challenge.rw_lateposts_k23_whole_order_of_receivers).prog 75).name = ("law" : PySem.Str) := by kernel_rfl
      rw [← e]
      exact hmg0
    obtain ⟨fd, hb, hF⟩ := DL.facts (P := (PySem.Challenge.rw_lateposts_k23_whole_order_of_receivers).prog) (w := w) KX G hmg c
    exact ⟨K, fd, _, KX, hb, fun H a ns hl _ hS => DL.spOf (G := DL.gOf _ w K) hS (hp ns hl), hF⟩
end
theorem PySem.Challenge.cw_lateposts_k23_whole_order_of_receivers_holds : PySem.Challenge.rw_lateposts_k23_whole_order_of_receivers.Holds := by
  exact DL.fin fun ns _ => DL.law_plain ns
