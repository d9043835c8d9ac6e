import PyProof.Rows.All
import HandS.Conv
import HandS.Deep
import HandS.EndBits
import HandS.ExcOwn
import HandS.Flow
import HandS.ForMost
import HandS.IsInst
import HandS.More
import HandS.SetFor
import HandS.SetKeys
import HandS.Small
import HandS.SortInts
import HandS.SortKw
import HandS.Style
import HandS.Text
import HandS.TryOnly
import HandS.TupAny
import HandS.Wide
import HandS.WideBits
import HandS.WordsDict
import HandS.WordsExc
import HandS.Zip
import KE.DataMinMax
import KE.KDictKeyed
import KE.KeyNested
import OpenK.AllK
import Wide.All
import Wide.FinOn
import PySem.Challenge.RW_samewise_k68_whole_taken_out
set_option Elab.async false
set_option linter.all false
set_option maxRecDepth 100000
set_option autoImplicit false
namespace AL
open PySem PySem.Spec L2
open PyProof.Rows hiding St

/-! ### values with their tuples in them -/
inductive W where
  | non | bl (b : Bool) | int (i : Int) | str (x : Str) | ref (a : Addr) | tup (xs : List W) | lst (xs : List W) | ty (n : String)

mutual
def RV (H : Hp) : W → V → Prop
  | .non, v => v = .non
  | .bl b, v => v = .bl b
  | .int i, v => v = .int i
  | .str x, v => v = .str x
  | .ref a, v => v = .ref a
  | .ty n, v => v = .ty n
  | .tup ws, v => ∃ a vs, v = .ref a ∧ H a = some (.tup vs) ∧ RVs H ws vs
  | .lst ws, v => ∃ a vs, v = .ref a ∧ (∃ o, H a = some (.frz o (.lst vs))) ∧ RVs H ws vs
def RVs (H : Hp) : List W → List V → Prop
  | [], vs => vs = []
  | w :: ws, vs => ∃ v r, vs = v :: r ∧ RV H w v ∧ RVs H ws r
end
/-- tuples and frozen things are kept -/
structure Keep (H H' : Hp) : Prop where
  t : ∀ a vs, H a = some (.tup vs) → H' a = some (.tup vs)
  f : ∀ a o u, H a = some (.frz o u) → H' a = some (.frz o u)
theorem Keep.refl {H : Hp} : Keep H H := ⟨fun _ _ h => h, fun _ _ _ h => h⟩
theorem Keep.trans {H H1 H2 : Hp} (a : Keep H H1) (b : Keep H1 H2) : Keep H H2 := ⟨fun x v h => b.t x v (a.t x v h), fun x o v h => b.f x o v (a.f x o v h)⟩
theorem Keep.same {H H' : Hp} (h : Same H H') : Keep H H' := ⟨fun a vs e => h a _ e, fun a o vs e => h a _ e⟩
theorem Same.new {H : Hp} {p : Addr} {o : HO} (h : H p = none) : Same H (upd H p o) := fun b u e => by
  rw [upd_ne (ne_of_none e h)]; exact e
theorem Keep.new {H : Hp} {p : Addr} {o : HO} (h : H p = none) : Keep H (upd H p o) := .same (Same.new h)
theorem Keep.mut {H : Hp} {p : Addr} {o u : HO} (h : H p = some u) (n : Mut (some u)) : Keep H (upd H p o) := ⟨fun a vs e => by
  by_cases q : a = p
  · subst q; rw [h] at e; cases e; exact n.elim
  · rw [upd_ne q]; exact e, fun a ob vs e => by
  by_cases q : a = p
  · subst q; rw [h] at e; cases e; exact n.elim
  · rw [upd_ne q]; exact e⟩
mutual
theorem RV.keep {H H' : Hp} (k : Keep H H') : ∀ (w : W) (v : V), RV H w v → RV H' w v
  | .non, _, h => h
  | .bl _, _, h => h
  | .int _, _, h => h
  | .str _, _, h => h
  | .ref _, _, h => h
  | .ty _, _, h => h
  | .tup ws, _, ⟨a, vs, e, h, r⟩ => ⟨a, vs, e, k.t _ _ h, RVs.keep k ws vs r⟩
  | .lst ws, _, ⟨a, vs, e, ⟨o, h⟩, r⟩ => ⟨a, vs, e, ⟨o, k.f _ _ _ h⟩, RVs.keep k ws vs r⟩
theorem RVs.keep {H H' : Hp} (k : Keep H H') : ∀ (ws : List W) (vs : List V), RVs H ws vs → RVs H' ws vs
  | [], _, h => h
  | w :: ws, _, ⟨v, r, e, h, t⟩ => ⟨v, r, e, RV.keep k w v h, RVs.keep k ws r t⟩
end
theorem RV.mono {H H' : Hp} {w : W} {v : V} (h : RV H w v) (k : Keep H H') : RV H' w v := RV.keep k w v h
theorem RVs.mono {H H' : Hp} {w : List W} {v : List V} (h : RVs H w v) (k : Keep H H') : RVs H' w v := RVs.keep k w v h
theorem RVs.nil {H : Hp} : RVs H [] [] := rfl
theorem RVs.cons {H : Hp} {w : W} {v : V} {ws : List W} {vs : List V} (h : RV H w v) (t : RVs H ws vs) : RVs H (w :: ws) (v :: vs) := ⟨v, vs, rfl, h, t⟩
theorem RVs.length {H : Hp} : ∀ {ws : List W} {vs : List V}, RVs H ws vs → ws.length = vs.length
  | [], vs, h => by have e : vs = [] := h; rw [e]; rfl
  | _ :: _, _, ⟨_, _, e, _, t⟩ => by rw [e, List.length_cons, List.length_cons, RVs.length t]
theorem RVs.get {H : Hp} : ∀ {ws : List W} {vs : List V} {i : Nat} {w : W}, RVs H ws vs → ws[i]? = some w → ∃ v, vs[i]? = some v ∧ RV H w v
  | [], _, _, _, _, e => by simp at e
  | _ :: _, _, 0, _, ⟨v, r, e, h, t⟩, q => by
    simp at q; subst q; subst e; exact ⟨v, rfl, h⟩
  | _ :: _, _, i + 1, _, ⟨v, r, e, h, t⟩, q => by
    subst e
    obtain ⟨v', h1, h2⟩ := RVs.get (i := i) t (by simpa using q)
    exact ⟨v', by simpa using h1, h2⟩
theorem RVs.back {H : Hp} : ∀ {ws : List W} {vs : List V} {i : Nat} {v : V}, RVs H ws vs → vs[i]? = some v → ∃ w, ws[i]? = some w ∧ RV H w v
  | [], _, _, _, h, e => by rw [show _ = [] from h] at e; simp at e
  | w :: _, _, 0, _, ⟨v, r, e, h, t⟩, q => by
    subst e; simp at q; subst q; exact ⟨w, rfl, h⟩
  | _ :: _, _, i + 1, _, ⟨v, r, e, h, t⟩, q => by
    subst e
    obtain ⟨v', h1, h2⟩ := RVs.back (i := i) t (by simpa using q)
    exact ⟨v', by simpa using h1, h2⟩
theorem RVs.set {H : Hp} {w : W} {v : V} (h : RV H w v) : ∀ {ws : List W} {vs : List V} (i : Nat), RVs H ws vs → RVs H (ws.set i w) (vs.set i v)
  | [], _, i, e => by rw [show _ = [] from e]; simp; exact RVs.nil
  | _ :: _, _, 0, ⟨_, _, e, _, t⟩ => by subst e; exact .cons h t
  | _ :: _, _, i + 1, ⟨_, _, e, h', t⟩ => by subst e; exact .cons h' (RVs.set h i t)
theorem RVs.append {H : Hp} : ∀ {ws ws' : List W} {vs vs' : List V}, RVs H ws vs → RVs H ws' vs' → RVs H (ws ++ ws') (vs ++ vs')
  | [], _, _, _, e, t => by rw [show _ = [] from e]; exact t
  | _ :: _, _, _, _, ⟨_, _, e, h, t⟩, t' => by subst e; exact .cons h (RVs.append t t')
theorem RVs.take {H : Hp} : ∀ {ws : List W} {vs : List V} (n : Nat), RVs H ws vs → RVs H (ws.take n) (vs.take n)
  | _, _, 0, _ => RVs.nil
  | [], _, _ + 1, e => by rw [show _ = [] from e]; exact RVs.nil
  | _ :: _, _, n + 1, ⟨_, _, e, h, t⟩ => by subst e; exact .cons h (RVs.take n t)
theorem RVs.drop {H : Hp} : ∀ {ws : List W} {vs : List V} (n : Nat), RVs H ws vs → RVs H (ws.drop n) (vs.drop n)
  | _, _, 0, h => h
  | [], _, _ + 1, e => by rw [show _ = [] from e]; exact RVs.nil
  | _ :: _, _, n + 1, ⟨_, _, e, h, t⟩ => by subst e; exact RVs.drop n t
theorem RVs.ints {H : Hp} : ∀ (ns : List Int), RVs H (ns.map W.int) (ns.map V.int)
  | [] => RVs.nil
  | _ :: ns => .cons rfl (RVs.ints ns)
theorem RVs.ints_eq {H : Hp} : ∀ {ns : List Int} {vs : List V}, RVs H (ns.map W.int) vs → vs = ns.map V.int
  | [], _, h => h
  | _ :: ns, _, ⟨_, _, e, h, t⟩ => by rw [e, RVs.ints_eq t, show _ = V.int _ from h]; rfl
theorem RVs.strs_eq {H : Hp} : ∀ {ns : List Str} {vs : List V}, RVs H (ns.map W.str) vs → vs = ns.map V.str
  | [], _, h => h
  | _ :: ns, _, ⟨_, _, e, h, t⟩ => by rw [e, RVs.strs_eq t, show _ = V.str _ from h]; rfl
theorem RVs.strs {H : Hp} : ∀ (ns : List Str), RVs H (ns.map W.str) (ns.map V.str)
  | [] => RVs.nil
  | _ :: ns => .cons rfl (RVs.strs ns)
theorem RVs.bls_eq {H : Hp} : ∀ {ns : List Bool} {vs : List V}, RVs H (ns.map W.bl) vs → vs = ns.map V.bl
  | [], _, h => h
  | _ :: ns, _, ⟨_, _, e, h, t⟩ => by rw [e, RVs.bls_eq t, show _ = V.bl _ from h]; rfl

/-! ### equality of values -/
mutual
def eqW : W → W → Bool
  | .non, b => (match b with | .non => true | _ => false)
  | .bl a, b => (match b with | .bl b => a == b | _ => false)
  | .int a, b => (match b with | .int b => decide (a = b) | _ => false)
  | .str a, b => (match b with | .str b => decide (a = b) | _ => false)
  | .ref a, b => (match b with | .ref b => a == b | _ => false)
  | .ty a, b => (match b with | .ty b => a == b | _ => false)
  | .tup a, b => (match b with | .tup b => eqWs a b | _ => false)
  | .lst a, b => (match b with | .lst b => eqWs a b | _ => false)
def eqWs : List W → List W → Bool
  | [], b => (match b with | [] => true | _ => false)
  | a :: as, b => (match b with | b :: bs => eqW a b && eqWs as bs | [] => false)
end
mutual
theorem eqW_self : ∀ a : W, eqW a a = true
  | .non => rfl
  | .bl a => by simp [eqW]
  | .int a => by simp [eqW]
  | .str a => by simp [eqW]
  | .ref a => by simp [eqW]
  | .ty a => by simp [eqW]
  | .tup a => by rw [eqW]; exact eqWs_self a
  | .lst a => by rw [eqW]; exact eqWs_self a
theorem eqWs_self : ∀ a : List W, eqWs a a = true
  | [] => rfl
  | a :: as => by show (eqW a a && eqWs as as) = true; rw [eqW_self a, eqWs_self as]; rfl
end
mutual
theorem eq_of_eqW : ∀ a b : W, eqW a b = true → a = b
  | .non, b, h => by cases b <;> first | rfl | (simp [eqW] at h)
  | .bl a, b, h => by cases b <;> first | (simp [eqW] at h; rw [h]) | (simp [eqW] at h)
  | .int a, b, h => by cases b <;> first | (simp [eqW] at h; rw [h]) | (simp [eqW] at h)
  | .str a, b, h => by cases b <;> first | (simp [eqW] at h; rw [h]) | (simp [eqW] at h)
  | .ref a, b, h => by cases b <;> first | (simp [eqW] at h; rw [h]) | (simp [eqW] at h)
  | .ty a, b, h => by cases b <;> first | (simp [eqW] at h; rw [h]) | (simp [eqW] at h)
  | .tup a, b, h => by cases b <;> first | (rw [eqW] at h; rw [eq_of_eqWs a _ h]) | (simp [eqW] at h)
  | .lst a, b, h => by cases b <;> first | (rw [eqW] at h; rw [eq_of_eqWs a _ h]) | (simp [eqW] at h)
theorem eq_of_eqWs : ∀ a b : List W, eqWs a b = true → a = b
  | [], b, h => by cases b <;> first | rfl | (simp [eqWs] at h)
  | a :: as, b, h => by
    cases b with
    | nil => simp [eqWs] at h
    | cons b bs =>
      have h : (eqW a b && eqWs as bs) = true := h
      rw [Bool.and_eq_true] at h
      rw [eq_of_eqW a b h.1, eq_of_eqWs as bs h.2]
end
instance : DecidableEq W := fun a b => if h : eqW a b = true then .isTrue (eq_of_eqW a b h) else .isFalse fun e => h (e ▸ eqW_self a)
theorem decW (a b : W) : decide (a = b) = eqW a b := by
  cases h : eqW a b with
  | true => exact decide_eq_true (eq_of_eqW a b h)
  | false => exact decide_eq_false fun e => by rw [e, eqW_self] at h; cases h
theorem eqW_iff {a b : W} : eqW a b = true ↔ a = b := ⟨eq_of_eqW a b, fun e => e ▸ eqW_self a⟩
end AL
namespace AL
open PySem PySem.Spec L2
open PyProof.Rows hiding St

/-! ### the abstract heap -/
inductive AO where
  | lst (ws : List W) | fro (ws : List W) | dK (kvs : List (Key × W)) | dN (kvs : List (W × W)) | zK (kvs : List (Key × W)) | zN (kvs : List (W × W)) | ins (C dx : Addr) (fs : List (Str × W)) | xd (fs : List (Str × W))
abbrev AH := Addr → Option AO
abbrev AS := List (Option W)
def aup (G : AH) (a : Addr) (o : AO) : AH := fun b => if b = a then some o else G b
theorem aup_same {G : AH} {a : Addr} {o : AO} : aup G a o a = some o := by unfold aup; rw [if_pos rfl]
theorem aup_ne {G : AH} {a b : Addr} {o : AO} (h : b ≠ a) : aup G a o b = G b := by unfold aup; rw [if_neg h]
theorem aup_aup {G : AH} {a : Addr} {o u : AO} : aup (aup G a o) a u = aup G a u := by
  funext b; unfold aup; split <;> rfl
theorem ane_none {G : AH} {a b : Addr} {o : AO} (h : G a = some o) (h' : G b = none) : a ≠ b := by
  intro e; subst e; rw [h] at h'; cases h'
theorem ane {G : AH} {a b : Addr} {o u : AO} (h : G a = some o) (h' : G b = some u) (d : o ≠ u) : a ≠ b := by
  intro e; subst e; rw [h] at h'; exact d (Option.some.inj h')
/-- a new one does not stand in the way -/
theorem aup_new {G : AH} {a p : Addr} {o u : AO} (hp : G p = none) (h : G a = some o) : aup G p u a = some o := by
  rw [aup_ne (ane_none h hp)]; exact h
theorem aup_old {G : AH} {a p : Addr} {o u : AO} (hp : a ≠ p) (h : G a = some o) : aup G p u a = some o := by
  rw [aup_ne hp]; exact h
theorem aup_free {G : AH} {a p : Addr} {u : AO} (h : aup G p u a = none) : G a = none ∧ a ≠ p := by
  by_cases e : a = p
  · subst e; rw [aup_same] at h; cases h
  · rw [aup_ne e] at h; exact ⟨h, e⟩

structure Ct where
  P : Program
  w : World
  K : PySem.W.Frag
def cc (X : Cx) : Ct := ⟨X.prog, X.w, X.K⟩

mutual
/-- a value as a key -/
def nk : W → NestedKey
  | .non => .none
  | .bl b => .num (if b = true then 1 else 0)
  | .int i => .num i
  | .str x => .text x
  | .ref _ => .none
  | .ty _ => .none
  | .tup ws => .tup (nks ws)
  | .lst _ => .none
def nks : List W → List NestedKey
  | [] => []
  | w :: ws => nk w :: nks ws
end
mutual
/-- ints, texts, None, tuples of these -/
def kbl : W → Bool
  | .non => true
  | .bl _ => false
  | .int _ => true
  | .str _ => true
  | .ref _ => false
  | .ty _ => false
  | .tup ws => kbls ws
  | .lst _ => false
def kbls : List W → Bool
  | [] => true
  | w :: ws => kbl w && kbls ws
end
mutual
theorem nk_inj : ∀ a b : W, kbl a = true → kbl b = true → nk a = nk b → a = b
  | .non, .non, _, _, _ => rfl
  | .int a, .int b, _, _, h => by simp only [nk, NestedKey.num.injEq] at h; rw [h]
  | .str a, .str b, _, _, h => by simp only [nk, NestedKey.text.injEq] at h; rw [h]
  | .tup a, .tup b, ha, hb, h => by
    simp only [nk, NestedKey.tup.injEq] at h
    rw [nks_inj a b (by simpa only [kbl] using ha) (by simpa only [kbl] using hb) h]
  | .non, .int _, _, _, h | .non, .str _, _, _, h | .non, .tup _, _, _, h => by simp [nk] at h
  | .int _, .non, _, _, h | .int _, .str _, _, _, h | .int _, .tup _, _, _, h => by simp [nk] at h
  | .str _, .non, _, _, h | .str _, .int _, _, _, h | .str _, .tup _, _, _, h => by simp [nk] at h
  | .tup _, .non, _, _, h | .tup _, .int _, _, _, h | .tup _, .str _, _, _, h => by simp [nk] at h
  | .bl _, _, h, _, _ => by simp [kbl] at h
  | .ref _, _, h, _, _ => by simp [kbl] at h
  | .ty _, _, h, _, _ => by simp [kbl] at h
  | .lst _, _, h, _, _ => by simp [kbl] at h
  | .non, .bl _, _, h, _ | .non, .ref _, _, h, _ | .non, .lst _, _, h, _ | .non, .ty _, _, h, _ => by simp [kbl] at h
  | .int _, .bl _, _, h, _ | .int _, .ref _, _, h, _ | .int _, .lst _, _, h, _ | .int _, .ty _, _, h, _ => by simp [kbl] at h
  | .str _, .bl _, _, h, _ | .str _, .ref _, _, h, _ | .str _, .lst _, _, h, _ | .str _, .ty _, _, h, _ => by simp [kbl] at h
  | .tup _, .bl _, _, h, _ | .tup _, .ref _, _, h, _ | .tup _, .lst _, _, h, _ | .tup _, .ty _, _, h, _ => by simp [kbl] at h
theorem nks_inj : ∀ a b : List W, kbls a = true → kbls b = true → nks a = nks b → a = b
  | [], [], _, _, _ => rfl
  | a :: as, b :: bs, ha, hb, h => by
    simp only [kbls, Bool.and_eq_true] at ha hb
    simp only [nks, List.cons.injEq] at h
    rw [nk_inj a b ha.1 hb.1 h.1, nks_inj as bs ha.2 hb.2 h.2]
  | [], _ :: _, _, _, h => by simp [nks] at h
  | _ :: _, [], _, _, h => by simp [nks] at h
end

/-- a dict whose keys are nested tuples, as one object -/
def rawN (P : Program) (w : World) (a : Addr) (es : List (NestedKey × Addr × V)) : Heap → Prop := fun h =>
  es.length ≤ sizeLine ∧ (a == sysModules) = false ∧ ∃ xs : List (NestedKey × Addr × Value), Paired (fun (p : NestedKey × Addr × V) (q : NestedKey × Addr × Value) => p.1 = q.1 ∧ p.2.1 = q.2.1 ∧ RelV p.2.2 q.2.2) es xs ∧
    ∃ o es' ep, h.get? a = some o ∧ o.ExactDict ∧ o.data = .dict es' ep ∧ es'.toList = xs.map (entryOfKey (nestedKind P w)) ∧ (xs.map (·.1)).Nodup

def KWV {κ : Type} (H : Hp) : List (κ × W) → List (κ × V) → Prop := Paired fun (p : κ × W) (q : κ × V) => p.1 = q.1 ∧ RV H p.2 q.2
theorem KWV.mono {κ : Type} {H H' : Hp} {kws : List (κ × W)} {kvs : List (κ × V)} (h : KWV H kws kvs) (k : Keep H H') : KWV H' kws kvs := Paired.mapP h fun _ _ z => ⟨z.1, z.2.mono k⟩
def NWV (H : Hp) : List (W × W) → List (NestedKey × Addr × V) → Prop := Paired fun (p : W × W) (q : NestedKey × Addr × V) => q.1 = nk p.1 ∧ kbl p.1 = true ∧ (nk p.1).depth ≤ 8 ∧ RV H p.1 (.ref q.2.1) ∧ RV H p.2 q.2.2

def RO (c : Ct) (H : Hp) (a : Addr) : AO → Prop
  | .lst ws => ∃ vs, H a = some (.lst vs) ∧ RVs H ws vs
  | .fro ws => ∃ vs, Rd H a (.lst vs) ∧ RVs H ws vs
  | .dK kws => ∃ kvs, H a = some (.dK kvs) ∧ KWV H kws kvs
  | .dN kws => ∃ es, H a = some (.ext (rawN c.P c.w a es)) ∧ NWV H kws es
  | .zK kws => ∃ o kvs, H a = some (.frz o (.dK kvs)) ∧ KWV H kws kvs
  | .zN kws => ∃ o es, H a = some (.frz o (.ext (rawN c.P c.w a es))) ∧ NWV H kws es
  | .ins C dx fs => ∃ gs, H a = some (.ins C dx gs) ∧ KWV H fs gs
  | .xd fs => ∃ gs, H a = some (.xd gs) ∧ KWV H fs gs
def RG (c : Ct) (H : Hp) (G : AH) : Prop := ∀ a o, G a = some o → RO c H a o
theorem RO.at {c : Ct} {H H' : Hp} {a : Addr} {o : AO} (h : RO c H a o) (e : H' a = H a) (k : Keep H H') : RO c H' a o := by
  cases o with
  | lst ws => obtain ⟨vs, h1, h2⟩ := h; exact ⟨vs, e.trans h1, h2.mono k⟩
  | fro ws =>
    obtain ⟨vs, h1, h2⟩ := h
    refine ⟨vs, ?_, h2.mono k⟩
    rcases h1 with h | ⟨o, h⟩
    · exact .inl (e.trans h)
    · exact .inr ⟨o, e.trans h⟩
  | dK kws => obtain ⟨vs, h1, h2⟩ := h; exact ⟨vs, e.trans h1, h2.mono k⟩
  | dN kws => obtain ⟨vs, h1, h2⟩ := h; exact ⟨vs, e.trans h1, Paired.mapP h2 fun _ _ z => ⟨z.1, z.2.1, z.2.2.1, z.2.2.2.1.mono k, z.2.2.2.2.mono k⟩⟩
  | zK kws => obtain ⟨o, vs, h1, h2⟩ := h; exact ⟨o, vs, e.trans h1, h2.mono k⟩
  | zN kws => obtain ⟨o, vs, h1, h2⟩ := h; exact ⟨o, vs, e.trans h1, Paired.mapP h2 fun _ _ z => ⟨z.1, z.2.1, z.2.2.1, z.2.2.2.1.mono k, z.2.2.2.2.mono k⟩⟩
  | ins C dx fs => obtain ⟨vs, h1, h2⟩ := h; exact ⟨vs, e.trans h1, h2.mono k⟩
  | xd fs => obtain ⟨vs, h1, h2⟩ := h; exact ⟨vs, e.trans h1, h2.mono k⟩
section
variable {c : Ct} {H H' : Hp} {G : AH} {a p : Addr} {o : AO} {u : HO}
theorem RO.some (h : RO c H a o) : ∃ u, H a = some u := by
  cases o with
  | lst ws => obtain ⟨vs, h1, _⟩ := h; exact ⟨_, h1⟩
  | fro ws => obtain ⟨vs, h1 | ⟨o, h1⟩, _⟩ := h <;> exact ⟨_, h1⟩
  | dK kws => obtain ⟨vs, h1, _⟩ := h; exact ⟨_, h1⟩
  | dN kws => obtain ⟨vs, h1, _⟩ := h; exact ⟨_, h1⟩
  | zK kws => obtain ⟨_, vs, h1, _⟩ := h; exact ⟨_, h1⟩
  | zN kws => obtain ⟨_, vs, h1, _⟩ := h; exact ⟨_, h1⟩
  | ins C dx fs => obtain ⟨vs, h1, _⟩ := h; exact ⟨_, h1⟩
  | xd fs => obtain ⟨vs, h1, _⟩ := h; exact ⟨_, h1⟩
theorem RG.same (r : RG c H G) (s : Same H H') (k : Keep H H') : RG c H' G := fun a o e => by
  obtain ⟨u, q⟩ := (r a o e).some
  exact (r a o e).at ((s a u q).trans q.symm) k
theorem RG.tup (r : RG c H G) (n : H p = none) : RG c (upd H p u) G := r.same (Same.new n) (Keep.new n)
/-- a new object that is tracked -/
theorem RG.new (r : RG c H G) (n : H p = none) (h : RO c (upd H p u) p o) : RG c (upd H p u) (aup G p o) := fun a o' e => by
  by_cases q : a = p
  · subst q; rw [aup_same] at e; cases e; exact h
  · rw [aup_ne q] at e; exact (r.tup n) a o' e
/-- a tracked object changes -/
theorem RG.put (r : RG c H G) (k : Keep H (upd H p u)) (h : RO c (upd H p u) p o) : RG c (upd H p u) (aup G p o) := fun a o' e => by
  by_cases q : a = p
  · subst q; rw [aup_same] at e; cases e; exact h
  · rw [aup_ne q] at e; exact (r a o' e).at (upd_ne q) k
/-- fewer known objects -/
theorem RG.less {G' : AH} (r : RG c H G) (s : ∀ a o, G' a = some o → G a = some o) : RG c H G' := fun a o e => r a o (s a o e)
end
/-- a new address is none that is known -/
theorem RG.free {c : Ct} {H : Hp} {G : AH} {p : Addr} (r : RG c H G) (n : H p = none) : G p = none := by
  cases q : G p with
  | none => rfl
  | some o =>
    obtain ⟨u, h⟩ := (r p o q).some
    rw [n] at h; cases h

/-! ### by value -/
theorem RV.sqL {K : PySem.W.Frag} {H : Hp} {ws : List W} {u : V} (h : RV H (.lst ws) u) : ∃ a vs, u = .ref a ∧ SqL K H a vs ∧ RVs H ws vs := by
  obtain ⟨a, vs, e, ⟨o, ho⟩, r⟩ := h
  exact ⟨a, vs, e, .inl (.inr ⟨o, ho⟩), r⟩
def adel (G : AH) (a : Addr) : AH := fun b => if b = a then none else G b
theorem adel_ne {G : AH} {a b : Addr} (h : b ≠ a) : adel G a b = G b := by unfold adel; rw [if_neg h]
theorem adel_aup {G : AH} {a : Addr} {o : AO} (h : G a = none) : adel (aup G a o) a = G := by
  funext b; unfold adel aup
  by_cases e : b = a
  · subst e; rw [if_pos rfl, h]
  · rw [if_neg e, if_neg e]
theorem adel_swap {G : AH} {a b : Addr} {o : AO} (h : b ≠ a) : adel (aup G b o) a = aup (adel G a) b o := by
  funext q; unfold adel aup
  by_cases e : q = a
  · subst e; simp [Ne.symm h]
  · simp [e]
theorem adel_none {G : AH} {a : Addr} (h : G a = none) : adel G a = G := by
  funext b; unfold adel
  by_cases e : b = a
  · subst e; rw [if_pos rfl, h]
  · rw [if_neg e]
theorem aup_swap {G : AH} {a b : Addr} {o u : AO} (h : a ≠ b) : aup (aup G a o) b u = aup (aup G b u) a o := by
  funext q; unfold aup
  by_cases e : q = a
  · subst e; simp [h]
  · simp [e]

/-! ### slots -/
def RS (H : Hp) (σ : St) (ρ : AS) : Prop := ρ.length = σ.length ∧ ∀ (i : Nat) (w : W), ρ[i]? = some (some w) → ∃ v, σ[i]? = some (some v) ∧ RV H w v
theorem RS.mono {H H' : Hp} {σ : St} {ρ : AS} (h : RS H σ ρ) (k : Keep H H') : RS H' σ ρ := ⟨h.1, fun i w e => let ⟨v, h1, h2⟩ := h.2 i w e; ⟨v, h1, h2.mono k⟩⟩
theorem RS.set {H : Hp} {σ : St} {ρ : AS} {w : W} {v : V} (h : RS H σ ρ) (i : Nat) (r : RV H w v) : RS H (σ.set i (some v)) (ρ.set i (some w)) := by
  refine ⟨by rw [List.length_set, List.length_set]; exact h.1, fun j w' e => ?_⟩
  by_cases q : i = j
  · subst q
    by_cases l : i < ρ.length
    · rw [List.getElem?_set_self l] at e; cases e
      exact ⟨v, by rw [List.getElem?_set_self (by rw [← h.1]; exact l)], r⟩
    · rw [List.getElem?_eq_none (by simpa using l)] at e; cases e
  · rw [List.getElem?_set_ne q] at e ⊢
    exact h.2 j w' e
theorem RS.setN {H : Hp} {σ : St} {ρ : AS} (h : RS H σ ρ) (i : Nat) : RS H (σ.set i none) (ρ.set i none) := by
  refine ⟨by rw [List.length_set, List.length_set]; exact h.1, fun j w' e => ?_⟩
  by_cases q : i = j
  · subst q
    by_cases l : i < ρ.length
    · rw [List.getElem?_set_self l] at e; cases e
    · rw [List.getElem?_eq_none (by simpa using l)] at e; cases e
  · rw [List.getElem?_set_ne q] at e ⊢
    exact h.2 j w' e
def wipeW (ρ : AS) : List Nat → AS
  | [] => ρ
  | v :: vs => (wipeW ρ vs).set v none
theorem RS.wipe {H : Hp} {σ : St} {ρ : AS} (h : RS H σ ρ) : ∀ vs : List Nat, RS H (L2.wipe σ vs) (wipeW ρ vs)
  | [] => h
  | v :: vs => (RS.wipe h vs).setN v
theorem RS.len {H : Hp} {σ : St} {ρ : AS} (h : RS H σ ρ) : ρ.length = σ.length := h.1
def startW (N : List Str) (ws : List W) : AS := ws.map some ++ List.replicate (N.length - ws.length) none
theorem RS.start {H : Hp} {N : List Str} {ws : List W} {vs : List V} (r : RVs H ws vs) : RS H (L2.start N vs) (startW N ws) := by
  have hl := r.length
  refine ⟨by unfold L2.start startW; simp [hl], fun i w e => ?_⟩
  unfold startW at e
  unfold L2.start
  by_cases q : i < ws.length
  · rw [List.getElem?_append_left (by simpa using q), List.getElem?_map] at e
    cases z : ws[i]? with
    | none => rw [z] at e; cases e
    | some w' =>
      rw [z] at e
      simp at e
      subst e
      obtain ⟨v, h1, h2⟩ := r.get z
      refine ⟨v, ?_, h2⟩
      rw [List.getElem?_append_left (by simpa [← hl] using q), List.getElem?_map, h1]
      rfl
  · rw [List.getElem?_append_right (by simpa using q), List.getElem?_replicate] at e
    split at e <;> cases e

/-! ### the judgements -/
section
variable (X : Cx)
/-- what an expression's end asks -/
def CW (c : Ct) (H : Hp) (K : W → AH → Prop) : VK := fun v H' => ∃ w G', Keep H H' ∧ RV H' w v ∧ RG c H' G' ∧ K w G'
def CB (c : Ct) (H : Hp) (K : Bool → AH → Prop) : Bool → Hp → Prop := fun b H' => ∃ G', Keep H H' ∧ RG c H' G' ∧ K b G'
def CA (c : Ct) (H : Hp) (n : Nat) (K : List W → AH → Prop) : List V → Hp → Prop := fun vs H' => ∃ ws G', Keep H H' ∧ RVs H' ws vs ∧ RG c H' G' ∧ ws.length = n ∧ K ws G'
def CS (c : Ct) (H : Hp) (K : AS → AH → Prop) : St → Hp → Prop := fun σ' H' => ∃ ρ' G', Keep H H' ∧ RS H' σ' ρ' ∧ RG c H' G' ∧ K ρ' G'
structure AEnds where
  nx : AS → AH → Prop
  rt : W → AH → Prop
  bk : AS → AH → Prop := fun _ _ => False
  ct : AS → AH → Prop := fun _ _ => False
def CD (c : Ct) (H : Hp) (A : AEnds) : Ends := ⟨CS c H A.nx, CW c H A.rt, CS c H A.bk, CS c H A.ct⟩

structure EQ (e : Expr) (ρ : AS) (G : AH) (K : W → AH → Prop) : Prop where
  run : ∀ (pins : List (Addr × Obj)) (s : Shared) (σ : St) (H : Hp), Inv X pins σ H s → RS H σ ρ → RG (cc X) H G → wpAny (model X.prog X.w) X.A (eval e X.env) (EP X pins σ (CW (cc X) H K)) X.xe s
structure BQ (e : Expr) (ρ : AS) (G : AH) (K : Bool → AH → Prop) : Prop where
  run : ∀ (pins : List (Addr × Obj)) (s : Shared) (σ : St) (H : Hp), Inv X pins σ H s → RS H σ ρ → RG (cc X) H G → wpAny (model X.prog X.w) X.A (isTrue e X.env (eval e X.env)) (TP X pins σ (CB (cc X) H K)) X.xe s
/-- a test whatever its 'whole' is -/
structure WQ (e : Expr) (ρ : AS) (G : AH) (K : Bool → AH → Prop) : Prop where
  run : ∀ (whole : Sem Value) (pins : List (Addr × Obj)) (s : Shared) (σ : St) (H : Hp), Inv X pins σ H s → RS H σ ρ → RG (cc X) H G → wpAny (model X.prog X.w) X.A (isTrue e X.env whole) (TP X pins σ (CB (cc X) H K)) X.xe s
structure AQ (es : List Expr) (ρ : AS) (G : AH) (K : List W → AH → Prop) : Prop where
  run : ∀ (pos : Pos) (pins : List (Addr × Obj)) (s : Shared) (σ : St) (H : Hp), Inv X pins σ H s → RS H σ ρ → RG (cc X) H G → wpAny (model X.prog X.w) X.A (spliced (backTo pos (starEach es X.env))) (AP X pins σ (CA (cc X) H es.length K)) X.xe s
structure S1 (st : Stmt) (ρ : AS) (G : AH) (A : AEnds) : Prop where
  run : ∀ (pins : List (Addr × Obj)) (s : Shared) (σ : St) (H : Hp), Inv X pins σ H s → RS H σ ρ → RG (cc X) H G → wpAny (model X.prog X.w) X.A (exec st X.env) (SP X pins (CD (cc X) H A)) X.xe s
structure SQ (sts : List Stmt) (ρ : AS) (G : AH) (A : AEnds) : Prop where
  run : ∀ (pins : List (Addr × Obj)) (s : Shared) (σ : St) (H : Hp), Inv X pins σ H s → RS H σ ρ → RG (cc X) H G → wpAny (model X.prog X.w) X.A (execs sts X.env) (SP X pins (CD (cc X) H A)) X.xe s
structure GQ (tg : Expr) (w : W) (ρ : AS) (G : AH) (K : AS → AH → Prop) : Prop where
  run : ∀ (pins : List (Addr × Obj)) (s : Shared) (σ : St) (H : Hp) (v : V) (u : Value), Inv X pins σ H s → RS H σ ρ → RG (cc X) H G → RV H w v → RelV v u →
    wpAny (model X.prog X.w) X.A (assign tg X.env u) (fun _ s' => ∃ σ' H', Inv X pins σ' H' s' ∧ CS (cc X) H K σ' H') X.xe s
structure GsQ (ts : List Expr) (ws : List W) (ρ : AS) (G : AH) (K : AS → AH → Prop) : Prop where
  run : ∀ (pins : List (Addr × Obj)) (s : Shared) (σ : St) (H : Hp) (vs : List V) (us : List Value), Inv X pins σ H s → RS H σ ρ → RG (cc X) H G → RVs H ws vs → Vals vs us →
    wpAny (model X.prog X.w) X.A (assignInOrder ((assignEach ts X.env).map (·.2)) us) (fun _ s' => ∃ σ' H', Inv X pins σ' H' s' ∧ CS (cc X) H K σ' H') X.xe s

def tE (e : Expr) : TE := fun σ H Q => ∃ ρ G K, EQ X e ρ G K ∧ RS H σ ρ ∧ RG (cc X) H G ∧ ∀ v H', CW (cc X) H K v H' → Q v H'
def tT (e : Expr) : TT := fun σ H Q => ∃ ρ G K, BQ X e ρ G K ∧ RS H σ ρ ∧ RG (cc X) H G ∧ ∀ v H', CB (cc X) H K v H' → Q v H'
def tW (e : Expr) : TT := fun σ H Q => ∃ ρ G K, WQ X e ρ G K ∧ RS H σ ρ ∧ RG (cc X) H G ∧ ∀ v H', CB (cc X) H K v H' → Q v H'
def tA (es : List Expr) : TA := fun σ H Q => ∃ ρ G K, AQ X es ρ G K ∧ RS H σ ρ ∧ RG (cc X) H G ∧ ∀ v H', CA (cc X) H es.length K v H' → Q v H'
def DImp (D D' : Ends) : Prop := (∀ σ H, D.nx σ H → D'.nx σ H) ∧ (∀ v H, D.rt v H → D'.rt v H) ∧ (∀ σ H, D.bk σ H → D'.bk σ H) ∧ (∀ σ H, D.ct σ H → D'.ct σ H)
def tS (st : Stmt) : TS := fun D σ H => ∃ ρ G A, S1 X st ρ G A ∧ RS H σ ρ ∧ RG (cc X) H G ∧ DImp (CD (cc X) H A) D
def tSs (sts : List Stmt) : TS := fun D σ H => ∃ ρ G A, SQ X sts ρ G A ∧ RS H σ ρ ∧ RG (cc X) H G ∧ DImp (CD (cc X) H A) D
def tG (tg : Expr) : TG := fun v σ H Q => ∃ w ρ G K, GQ X tg w ρ G K ∧ RS H σ ρ ∧ RG (cc X) H G ∧ RV H w v ∧ ∀ σ' H', CS (cc X) H K σ' H' → Q σ' H'
def tGs (ts : List Expr) : TGs := fun vs σ H Q => ∃ ws ρ G K, GsQ X ts ws ρ G K ∧ RS H σ ρ ∧ RG (cc X) H G ∧ RVs H ws vs ∧ ∀ σ' H', CS (cc X) H K σ' H' → Q σ' H'
end
section
variable {X : Cx}
theorem SP.imp {X : Cx} {pins : List (Addr × Obj)} {D D' : Ends} {f : Flow} {s : Shared} (h : SP X pins D f s) (i : DImp D D') : SP X pins D' f s := by
  cases f with
  | next => obtain ⟨σ, H, I, q⟩ := h; exact ⟨σ, H, I, i.1 _ _ q⟩
  | brk => obtain ⟨σ, H, I, q⟩ := h; exact ⟨σ, H, I, i.2.2.1 _ _ q⟩
  | cont => obtain ⟨σ, H, I, q⟩ := h; exact ⟨σ, H, I, i.2.2.2 _ _ q⟩
  | ret u => obtain ⟨v, σ, H, I, r, q⟩ := h; exact ⟨v, σ, H, I, r, i.2.1 _ _ q⟩
theorem pe_E {e : Expr} : PE X e (tE X e) := ⟨fun pins s σ H Q I ⟨ρ, G, K, h, rs, rg, k⟩ => thn (h.run pins s σ H I rs rg) fun u s' ⟨v, H', I', r, q⟩ => ⟨v, H', I', r, k v H' q⟩⟩
theorem pt_T {e : Expr} : PT X e (tT X e) := ⟨fun pins s σ H Q I ⟨ρ, G, K, h, rs, rg, k⟩ => thn (h.run pins s σ H I rs rg) fun u s' ⟨H', I', q⟩ => ⟨H', I', k u H' q⟩⟩
theorem pw_W {e : Expr} : PW X e (tW X e) := ⟨fun wh pins s σ H Q I ⟨ρ, G, K, h, rs, rg, k⟩ => thn (h.run wh pins s σ H I rs rg) fun u s' ⟨H', I', q⟩ => ⟨H', I', k u H' q⟩⟩
theorem pa_A {e : List Expr} : PA X e (tA X e) := ⟨fun pos pins s σ H Q I ⟨ρ, G, K, h, rs, rg, k⟩ => thn (h.run pos pins s σ H I rs rg) fun u s' ⟨v, H', I', r, q⟩ => ⟨v, H', I', r, k v H' q⟩⟩
theorem ps_S {e : Stmt} : PS X e (tS X e) := ⟨fun pins s σ H D I ⟨ρ, G, A, h, rs, rg, k⟩ => thn (h.run pins s σ H I rs rg) fun u s' q => SP.imp (D := CD (cc X) H A) q k⟩
theorem pss_S {e : List Stmt} : PSs X e (tSs X e) := ⟨fun pins s σ H D I ⟨ρ, G, A, h, rs, rg, k⟩ => thn (h.run pins s σ H I rs rg) fun u s' q => SP.imp (D := CD (cc X) H A) q k⟩
theorem pg_G {e : Expr} : PG X e (tG X e) := ⟨fun pins s σ H v u Q I r ⟨w, ρ, G, K, h, rs, rg, rv, k⟩ => thn (h.run pins s σ H v u I rs rg rv r) fun u s' ⟨σ', H', I', q⟩ => ⟨σ', H', I', k σ' H' q⟩⟩
theorem pgs_G {e : List Expr} : PGs X e (tGs X e) := ⟨fun pins s σ H v u Q I r ⟨w, ρ, G, K, h, rs, rg, rv, k⟩ => thn (h.run pins s σ H v u I rs rg rv r) fun u s' ⟨σ', H', I', q⟩ => ⟨σ', H', I', k σ' H' q⟩⟩

theorem EQ.of {e : Expr} {t : TE} {ρ : AS} {G : AH} {K : W → AH → Prop} (h : PE X e t) (k : ∀ σ H, RS H σ ρ → RG (cc X) H G → t σ H (CW (cc X) H K)) : EQ X e ρ G K := ⟨fun pins s σ H I rs rg => h.run pins s σ H _ I (k σ H rs rg)⟩
theorem BQ.of {e : Expr} {t : TT} {ρ : AS} {G : AH} {K : Bool → AH → Prop} (h : PT X e t) (k : ∀ σ H, RS H σ ρ → RG (cc X) H G → t σ H (CB (cc X) H K)) : BQ X e ρ G K := ⟨fun pins s σ H I rs rg => h.run pins s σ H _ I (k σ H rs rg)⟩
theorem WQ.of {e : Expr} {t : TT} {ρ : AS} {G : AH} {K : Bool → AH → Prop} (h : PW X e t) (k : ∀ σ H, RS H σ ρ → RG (cc X) H G → t σ H (CB (cc X) H K)) : WQ X e ρ G K := ⟨fun wh pins s σ H I rs rg => h.run wh pins s σ H _ I (k σ H rs rg)⟩
theorem AQ.of {e : List Expr} {t : TA} {ρ : AS} {G : AH} {K : List W → AH → Prop} (h : PA X e t) (k : ∀ σ H, RS H σ ρ → RG (cc X) H G → t σ H (CA (cc X) H e.length K)) : AQ X e ρ G K := ⟨fun pos pins s σ H I rs rg => h.run pos pins s σ H _ I (k σ H rs rg)⟩
theorem S1.of {e : Stmt} {t : TS} {ρ : AS} {G : AH} {A : AEnds} (h : PS X e t) (k : ∀ σ H, RS H σ ρ → RG (cc X) H G → t (CD (cc X) H A) σ H) : S1 X e ρ G A := ⟨fun pins s σ H I rs rg => h.run pins s σ H _ I (k σ H rs rg)⟩
theorem SQ.of {e : List Stmt} {t : TS} {ρ : AS} {G : AH} {A : AEnds} (h : PSs X e t) (k : ∀ σ H, RS H σ ρ → RG (cc X) H G → t (CD (cc X) H A) σ H) : SQ X e ρ G A := ⟨fun pins s σ H I rs rg => h.run pins s σ H _ I (k σ H rs rg)⟩
theorem GQ.of {e : Expr} {t : TG} {w : W} {ρ : AS} {G : AH} {K : AS → AH → Prop} (h : PG X e t) (k : ∀ v σ H, RS H σ ρ → RG (cc X) H G → RV H w v → t v σ H (CS (cc X) H K)) : GQ X e w ρ G K := ⟨fun pins s σ H v u I rs rg rv r => h.run pins s σ H v u _ I r (k v σ H rs rg rv)⟩
theorem GsQ.of {e : List Expr} {t : TGs} {w : List W} {ρ : AS} {G : AH} {K : AS → AH → Prop} (h : PGs X e t) (k : ∀ v σ H, RS H σ ρ → RG (cc X) H G → RVs H w v → t v σ H (CS (cc X) H K)) : GsQ X e w ρ G K := ⟨fun pins s σ H v u I rs rg rv r => h.run pins s σ H v u _ I r (k v σ H rs rg rv)⟩
end
theorem CW.pre {c : Ct} {H H1 : Hp} {K : W → AH → Prop} (k : Keep H H1) {v : V} {H' : Hp} (h : CW c H1 K v H') : CW c H K v H' := let ⟨w, G', k', r, g, q⟩ := h; ⟨w, G', k.trans k', r, g, q⟩
theorem CB.pre {c : Ct} {H H1 : Hp} {K : Bool → AH → Prop} (k : Keep H H1) {v : Bool} {H' : Hp} (h : CB c H1 K v H') : CB c H K v H' := let ⟨G', k', g, q⟩ := h; ⟨G', k.trans k', g, q⟩
theorem CA.pre {c : Ct} {H H1 : Hp} {n : Nat} {K : List W → AH → Prop} (k : Keep H H1) {v : List V} {H' : Hp} (h : CA c H1 n K v H') : CA c H n K v H' := let ⟨w, G', k', r, g, q⟩ := h; ⟨w, G', k.trans k', r, g, q⟩
theorem CS.pre {c : Ct} {H H1 : Hp} {K : AS → AH → Prop} (k : Keep H H1) {v : St} {H' : Hp} (h : CS c H1 K v H') : CS c H K v H' := let ⟨w, G', k', r, g, q⟩ := h; ⟨w, G', k.trans k', r, g, q⟩
theorem CW.imp {c : Ct} {H : Hp} {K K' : W → AH → Prop} (i : ∀ w G, K w G → K' w G) {v : V} {H' : Hp} (h : CW c H K v H') : CW c H K' v H' := let ⟨w, G', k', r, g, q⟩ := h; ⟨w, G', k', r, g, i _ _ q⟩
theorem CB.imp {c : Ct} {H : Hp} {K K' : Bool → AH → Prop} (i : ∀ w G, K w G → K' w G) {v : Bool} {H' : Hp} (h : CB c H K v H') : CB c H K' v H' := let ⟨G', k', g, q⟩ := h; ⟨G', k', g, i _ _ q⟩
theorem CS.imp {c : Ct} {H : Hp} {K K' : AS → AH → Prop} (i : ∀ w G, K w G → K' w G) {v : St} {H' : Hp} (h : CS c H K v H') : CS c H K' v H' := let ⟨w, G', k', r, g, q⟩ := h; ⟨w, G', k', r, g, i _ _ q⟩
theorem CD.pre {c : Ct} {H H1 : Hp} {A : AEnds} (k : Keep H H1) : DImp (CD c H1 A) (CD c H A) := ⟨fun _ _ h => h.pre k, fun _ _ h => h.pre k, fun _ _ h => h.pre k, fun _ _ h => h.pre k⟩
theorem EQ.mono {X : Cx} {e : Expr} {ρ : AS} {G : AH} {K K' : W → AH → Prop} (h : EQ X e ρ G K) (i : ∀ w G, K w G → K' w G) : EQ X e ρ G K' :=
  ⟨fun pins s σ H I rs rg => thn (h.run pins s σ H I rs rg) fun u s' ⟨v, H', I', r, q⟩ => ⟨v, H', I', r, q.imp i⟩⟩
theorem BQ.mono {X : Cx} {e : Expr} {ρ : AS} {G : AH} {K K' : Bool → AH → Prop} (h : BQ X e ρ G K) (i : ∀ w G, K w G → K' w G) : BQ X e ρ G K' :=
  ⟨fun pins s σ H I rs rg => thn (h.run pins s σ H I rs rg) fun u s' ⟨H', I', q⟩ => ⟨H', I', q.imp i⟩⟩
theorem SQ.mono {X : Cx} {e : List Stmt} {ρ : AS} {G : AH} {A A' : AEnds} (h : SQ X e ρ G A) (i1 : ∀ w G, A.nx w G → A'.nx w G) (i2 : ∀ w G, A.rt w G → A'.rt w G) (i3 : ∀ w G, A.bk w G → A'.bk w G) (i4 : ∀ w G, A.ct w G → A'.ct w G) : SQ X e ρ G A' :=
  ⟨fun pins s σ H I rs rg => thn (h.run pins s σ H I rs rg) fun u s' q => SP.imp (D := CD (cc X) H A) q ⟨fun _ _ z => z.imp i1, fun _ _ z => z.imp i2, fun _ _ z => z.imp i3, fun _ _ z => z.imp i4⟩⟩
theorem S1.mono {X : Cx} {e : Stmt} {ρ : AS} {G : AH} {A A' : AEnds} (h : S1 X e ρ G A) (i1 : ∀ w G, A.nx w G → A'.nx w G) (i2 : ∀ w G, A.rt w G → A'.rt w G) (i3 : ∀ w G, A.bk w G → A'.bk w G) (i4 : ∀ w G, A.ct w G → A'.ct w G) : S1 X e ρ G A' :=
  ⟨fun pins s σ H I rs rg => thn (h.run pins s σ H I rs rg) fun u s' q => SP.imp (D := CD (cc X) H A) q ⟨fun _ _ z => z.imp i1, fun _ _ z => z.imp i2, fun _ _ z => z.imp i3, fun _ _ z => z.imp i4⟩⟩
/-! ### knowing less -/
def Sub (G G' : AH) : Prop := ∀ a o, G a = some o → G' a = some o
theorem Sub.refl {G : AH} : Sub G G := fun _ _ h => h
theorem Sub.trans {G G1 G2 : AH} (h : Sub G G1) (h' : Sub G1 G2) : Sub G G2 := fun a o e => h' a o (h a o e)
theorem Sub.new {G : AH} {p : Addr} {o : AO} (h : G p = none) : Sub G (aup G p o) := fun a u e => aup_new h e
theorem Sub.aup {G G' : AH} {p : Addr} {o : AO} (h : Sub G G') : Sub (aup G p o) (AL.aup G' p o) := fun a u e => by
  by_cases q : a = p
  · subst q; rw [aup_same] at e ⊢; exact e
  · rw [aup_ne q] at e ⊢; exact h a u e
theorem Sub.free {G G' : AH} {p : Addr} (h : Sub G G') (e : G' p = none) : G p = none := by
  cases q : G p with
  | none => rfl
  | some o => rw [h p o q] at e; cases e
theorem RG.sub {c : Ct} {H : Hp} {G G' : AH} (g : RG c H G') (s : Sub G G') : RG c H G := g.less s
theorem EQ.less {X : Cx} {e : Expr} {ρ : AS} {G G' : AH} {K : W → AH → Prop} (s : Sub G G') (h : EQ X e ρ G K) : EQ X e ρ G' K := ⟨fun pins s' σ H I rs rg => h.run pins s' σ H I rs (rg.sub s)⟩
theorem SQ.less {X : Cx} {e : List Stmt} {ρ : AS} {G G' : AH} {A : AEnds} (s : Sub G G') (h : SQ X e ρ G A) : SQ X e ρ G' A := ⟨fun pins s' σ H I rs rg => h.run pins s' σ H I rs (rg.sub s)⟩
/-- fewer slots -/
theorem SQ.slots {X : Cx} {e : List Stmt} {ρ ρ' : AS} {G : AH} {A : AEnds} (hl : ρ'.length = ρ.length) (s : ∀ (i : Nat) (w : W), ρ[i]? = some (some w) → ρ'[i]? = some (some w)) (h : SQ X e ρ G A) : SQ X e ρ' G A :=
  ⟨fun pins s' σ H I rs rg => h.run pins s' σ H I ⟨hl.symm.trans rs.1, fun i w e => rs.2 i w (s i w e)⟩ rg⟩
/-- the state told in other words -/
theorem SQ.st {X : Cx} {e : List Stmt} {ρ : AS} {G : AH} {A : AEnds} (ρ' : AS) (h : ρ = ρ') (k : SQ X e ρ' G A) : SQ X e ρ G A := h ▸ k
theorem SQ.hp {X : Cx} {e : List Stmt} {ρ : AS} {G : AH} {A : AEnds} (G' : AH) (h : G = G') (k : SQ X e ρ G' A) : SQ X e ρ G A := h ▸ k
/-- the same but at some places -/
def Offs (l : List Addr) (G G' : AH) : Prop := ∀ q, q ∉ l → G' q = G q
theorem Offs.refl {l : List Addr} {G : AH} : Offs l G G := fun _ _ => rfl
theorem Offs.trans {l : List Addr} {G G1 G2 : AH} (h : Offs l G G1) (h' : Offs l G1 G2) : Offs l G G2 := fun q hq => (h' q hq).trans (h q hq)
theorem Offs.put {l : List Addr} {G G' : AH} {a : Addr} {o : AO} (h : Offs l G G') (m : a ∈ l) : Offs l G (AL.aup G' a o) := fun q hq => by
  rw [aup_ne (fun e => hq (by rw [e]; exact m))]; exact h q hq
theorem Offs.new {l : List Addr} {G G' : AH} {p : Addr} {o : AO} (h : Offs l G G') : Offs (p :: l) G (AL.aup G' p o) := fun q hq => by
  rw [aup_ne (fun e => hq (by rw [e]; exact List.mem_cons_self))]; exact h q (fun m => hq (List.mem_cons_of_mem _ m))
theorem Offs.more {l l' : List Addr} {G G' : AH} (h : Offs l G G') (s : ∀ q, q ∈ l → q ∈ l') : Offs l' G G' := fun q hq => h q fun m => hq (s q m)
/-- where all places but a are new, G' knows what G knows with a's new object -/
theorem Offs.sub1 {l : List Addr} {G G' : AH} {a : Addr} {o : AO} (h : Offs l G G') (ha : G' a = some o) (n : ∀ q, q ∈ l → q ≠ a → G q = none) : Sub (AL.aup G a o) G' := fun q u e => by
  by_cases z : q = a
  · subst z; rw [aup_same] at e; cases e; exact ha
  · rw [aup_ne z] at e
    by_cases m : q ∈ l
    · rw [n q m z] at e; cases e
    · rw [h q m]; exact e
theorem Offs.sub {l : List Addr} {G G' : AH} (h : Offs l G G') (n : ∀ q, q ∈ l → G q = none) : Sub G G' := fun q u e => by
  by_cases m : q ∈ l
  · rw [n q m] at e; cases e
  · rw [h q m]; exact e
end AL
namespace AL
open PySem PySem.Spec L2
open PyProof.Rows hiding St

/-! ### answers of tests -/
structure ifB (b : Bool) (P Q : Prop) : Prop where
  h : match b with
  | true => P
  | false => Q
theorem ifB_of {b : Bool} {P Q : Prop} (h1 : b = true → P) (h2 : b = false → Q) : ifB b P Q := by
  cases b with
  | true => exact ⟨h1 rfl⟩
  | false => exact ⟨h2 rfl⟩
theorem ifB_dec {p P Q : Prop} [Decidable p] (h1 : p → P) (h2 : ¬ p → Q) : ifB (decide p) P Q := ifB_of (fun e => h1 (of_decide_eq_true e)) fun e => h2 (of_decide_eq_false e)
theorem ifB_ndec {p P Q : Prop} [Decidable p] (h1 : ¬ p → P) (h2 : p → Q) : ifB (!decide p) P Q := ifB_of (fun e => h1 (by simpa using e)) fun e => h2 (by simpa using e)
theorem ifB_T {b : Bool} {P Q : Prop} (e : b = true) (h : P) : ifB b P Q := by subst e; exact ⟨h⟩
theorem ifB_F {b : Bool} {P Q : Prop} (e : b = false) (h : Q) : ifB b P Q := by subst e; exact ⟨h⟩
theorem ifT {P Q : Prop} (h : P) : ifB true P Q := ⟨h⟩
theorem ifF {P Q : Prop} (h : Q) : ifB false P Q := ⟨h⟩
def tst (K : Bool → AH → Prop) : W → AH → Prop := fun z G => match z with
  | .bl b => K b G
  | _ => False
def onI (z : W) (k : Int → Prop) : Prop := match z with
  | .int i => k i
  | _ => False

abbrev WR := W → W → AH → (W → AH → Prop) → Prop
def RR (c : Ct) (r : R2) (R : WR) : Prop := ∀ x y u v H G K (Q : VK), RV H x u → RV H y v → RG c H G → R x y G K → (∀ z H', CW c H K z H' → Q z H') → r u v H Q
theorem RG.newL {c : Ct} {H : Hp} {G : AH} {p : Addr} {ws : List W} {vs : List V} (g : RG c H G) (hp : H p = none) (r : RVs H ws vs) : RG c (upd H p (.lst vs)) (aup G p (.lst ws)) :=
  g.new hp (show RO c (upd H p (.lst vs)) p (.lst ws) from ⟨vs, upd_same, r.mono (Keep.new hp)⟩)
theorem RG.lst {c : Ct} {H : Hp} {G : AH} {a : Addr} {ws : List W} (g : RG c H G) (h : G a = some (.lst ws)) : ∃ vs, H a = some (.lst vs) ∧ RVs H ws vs := g a _ h
theorem RG.mutL {c : Ct} {H : Hp} {G : AH} {a : Addr} {vs vs' : List V} {ws' : List W} (g : RG c H G) (h : H a = some (.lst vs)) (r : RVs H ws' vs') : Keep H (upd H a (.lst vs')) ∧ RG c (upd H a (.lst vs')) (aup G a (.lst ws')) := by
  have k : Keep H (upd H a (.lst vs')) := Keep.mut h trivial
  exact ⟨k, g.put k (show RO c (upd H a (.lst vs')) a (.lst ws') from ⟨vs', upd_same, r.mono k⟩)⟩
/-- a list: tracked, or by value -/
def LsA (G : AH) (w : W) (xs : List W) : Prop := match w with
  | .lst ys => ys = xs
  | .ref a => G a = some (.lst xs)
  | _ => False
theorem LsA.rd {c : Ct} {H : Hp} {G : AH} {w : W} {xs : List W} {u : V} (g : RG c H G) (h : LsA G w xs) (r : RV H w u) : ∃ a vs, u = .ref a ∧ Rd H a (.lst vs) ∧ RVs H xs vs := by
  cases w with
  | lst ys =>
    cases (show ys = xs from h)
    obtain ⟨a, vs, e, ⟨o, ho⟩, q⟩ := r
    exact ⟨a, vs, e, .inr ⟨o, ho⟩, q⟩
  | ref a =>
    obtain ⟨vs, hv, q⟩ := g.lst h
    exact ⟨a, vs, r, .inl hv, q⟩
  | _ => exact h.elim
theorem LsA.sq {c : Ct} {H : Hp} {G : AH} {w : W} {xs : List W} {u : V} (g : RG c H G) (h : LsA G w xs) (r : RV H w u) : ∃ a vs, u = .ref a ∧ SqL c.K H a vs ∧ RVs H xs vs := by
  obtain ⟨a, vs, e, hr, q⟩ := h.rd g r
  exact ⟨a, vs, e, .inl hr, q⟩
theorem _root_.L2.Inv.lstR {X : Cx} {pins : List (Addr × Obj)} {σ : St} {H : Hp} {s : Shared} {a : Addr} {xs : List V} (I : Inv X pins σ H s) (h : Rd H a (.lst xs)) :
    ∃ (z : xs.length ≤ sizeLine) (its : List Value) (n : Nat) (_ : Vals xs its) (_ : xs.length = its.length), s.heap.get? a = some { cls := .type "list", data := .seq its.toArray n } := by
  obtain ⟨z, its, n, r, e⟩ := (h.ok I.hok : ObjOk X.prog X.w H s.heap a (.lst xs))
  exact ⟨z, its, n, r, r.length, e⟩
def rCatR : R2 := fun x y H Q => ∃ l b xs zs, x = .ref l ∧ y = .ref b ∧ Rd H l (.lst xs) ∧ Rd H b (.lst zs) ∧ xs.length + zs.length ≤ sizeLine ∧ ∀ p, H p = none → Q (.ref p) (upd H p (.lst (xs ++ zs)))
theorem op_catR {X : Cx} : OpR X (binaryOp .Add) rCatR := by
  intro pins s σ H x y v u Q I rx ry h
  obtain ⟨l, b, xs, zs, rfl, rfl, hH, hB, hz, q⟩ := h
  cases rx
  cases ry
  obtain ⟨z, its, n, r, hl, e⟩ := I.lstR hH
  obtain ⟨z2, its2, n2, r2, hl2, e2⟩ := I.lstR hB
  refine PySem.P.add_list e e2 ?_ (by rw [List.size_toArray, List.size_toArray]; omega)
  have ea : its.toArray ++ its2.toArray = (its ++ its2).toArray := by simp
  rw [ea]
  exact ⟨.ref _, _, I.lnew (t' := s.toks) (r.append r2) (by rw [List.length_append]; omega), rfl, q _ I.fresh⟩
/-- nothing changes -/
theorem CW.stay {c : Ct} {H : Hp} {G : AH} {K : W → AH → Prop} {w : W} {v : V} (r : RV H w v) (g : RG c H G) (k : K w G) : CW c H K v H := ⟨w, G, Keep.refl, r, g, k⟩

section
variable {X : Cx} {a b e : Expr} {pos : Pos} {ρ : AS} {G : AH} {K : W → AH → Prop}
theorem q_var {x : Str} {i : Nat} {w : W} (hρ : ρ[i]? = some (some w)) (k : K w G) (hN : X.N[i]? = some x := by rfl) (hv : Vis X.env.scope x := by first | exact Or.inl rfl | exact Or.inr (Or.inl rfl) | exact Or.inr (Or.inr rfl))
    (hd : (x == ("__debug__" : Str)) = false := by decide) (hcd : (x == ("__classdict__" : Str)) = false := by decide) : EQ X (.Name x pos) ρ G K :=
  EQ.of (pe_var hN hv hd hcd) fun σ H rs rg => let ⟨v, h1, h2⟩ := rs.2 i w hρ; ⟨v, h1, .stay h2 rg k⟩
theorem q_int {i : Int} {j : Nat} (k : K (.int i) G) : EQ X (.Constant (.int i) j pos) ρ G K := EQ.of pe_int fun σ H rs rg => CW.stay (w := .int i) rfl rg k
theorem q_bl {i : Bool} {j : Nat} (k : K (.bl i) G) : EQ X (.Constant (.bool i) j pos) ρ G K := EQ.of pe_bl fun σ H rs rg => CW.stay (w := .bl i) rfl rg k
theorem q_non {j : Nat} (k : K .non G) : EQ X (.Constant .none j pos) ρ G K := EQ.of pe_non fun σ H rs rg => CW.stay (w := .non) rfl rg k
theorem q_str {i : Str} {j : Nat} (k : K (.str i) G) : EQ X (.Constant (.str i) j pos) ρ G K := EQ.of pe_str fun σ H rs rg => CW.stay (w := .str i) rfl rg k
theorem q_op {op : Operator} {r : R2} {R : WR} (ho : OpR X (binaryOp op) r) (rr : RR (cc X) r R) (h : EQ X a ρ G fun x G1 => EQ X b ρ G1 fun y G2 => R x y G2 K) : EQ X (.BinOp a op b pos) ρ G K :=
  EQ.of (pe_op ho pe_E pe_E) fun σ H rs rg => ⟨ρ, G, _, h, rs, rg, fun u H1 ⟨x, G1, k1, rx, rg1, hb⟩ => ⟨ρ, G1, _, hb, rs.mono k1, rg1, fun v H2 ⟨y, G2, k2, ry, rg2, hr⟩ =>
    rr x y u v H2 G2 K _ (rx.mono k2) ry rg2 hr fun z H' q => q.pre (k1.trans k2)⟩⟩
theorem q_cmp {op : CmpOp} {r : R2} {R : WR} (ho : OpR X (compareOp op) r) (rr : RR (cc X) r R) (hm : behindInMarks op b = false) (h : EQ X a ρ G fun x G1 => EQ X b ρ G1 fun y G2 => R x y G2 K) : EQ X (.Compare a [op] [b] pos) ρ G K :=
  EQ.of (pe_cmpR ho pe_E pe_E hm) fun σ H rs rg => ⟨ρ, G, _, h, rs, rg, fun u H1 ⟨x, G1, k1, rx, rg1, hb⟩ => ⟨ρ, G1, _, hb, rs.mono k1, rg1, fun v H2 ⟨y, G2, k2, ry, rg2, hr⟩ =>
    rr x y u v H2 G2 K _ (rx.mono k2) ry rg2 hr fun z H' q => q.pre (k1.trans k2)⟩⟩
theorem tst_of {c : Ct} {H H' : Hp} {K : Bool → AH → Prop} {z : V} (h : CW c H (tst K) z H') : ∃ k, z = .bl k ∧ CB c H K k H' := by
  obtain ⟨w, G', k, r, g, q⟩ := h
  cases w with
  | bl b => exact ⟨b, r, G', k, g, q⟩
  | _ => exact q.elim
theorem b_cmp {op : CmpOp} {r : R2} {R : WR} {K : Bool → AH → Prop} (ho : OpR X (compareOp op) r) (rr : RR (cc X) r R) (hm : behindInMarks op b = false) (h : EQ X a ρ G fun x G1 => EQ X b ρ G1 fun y G2 => R x y G2 (tst K)) : BQ X (.Compare a [op] [b] pos) ρ G K :=
  BQ.of (pt_cmpR ho pe_E pe_E hm) fun σ H rs rg => ⟨ρ, G, _, h, rs, rg, fun u H1 ⟨x, G1, k1, rx, rg1, hb⟩ => ⟨ρ, G1, _, hb, rs.mono k1, rg1, fun v H2 ⟨y, G2, k2, ry, rg2, hr⟩ =>
    rr x y u v H2 G2 (tst K) _ (rx.mono k2) ry rg2 hr fun z H' q => tst_of (q.pre (k1.trans k2))⟩⟩
/-- a test that is an expression with a truth value -/
theorem b_val {K : Bool → AH → Prop} (h : EQ X e ρ G (tst K)) (he : ∀ whole, isTrue e X.env whole = (do let v ← whole; standAt e.pos; holding [v] (truthy v)) := by intro _; rfl) : BQ X e ρ G K :=
  BQ.of (pt_val pe_E he) fun σ H rs rg => ⟨ρ, G, _, h, rs, rg, fun u H1 q => tst_of q⟩
theorem b_not {K : Bool → AH → Prop} (h : BQ X a ρ G fun c G1 => K (!c) G1) : BQ X (.UnaryOp .Not a pos) ρ G K :=
  BQ.of (pt_not pt_T) fun σ H rs rg => ⟨ρ, G, _, h, rs, rg, fun c H' ⟨G', k, g, q⟩ => ⟨G', k, g, q⟩⟩
theorem WQ.test {K : Bool → AH → Prop} (h : WQ X e ρ G K) : BQ X e ρ G K := ⟨fun pins s σ H I rs rg => h.run _ pins s σ H I rs rg⟩
theorem w_and1 {K : Bool → AH → Prop} (h : BQ X a ρ G K) : WQ X (.BoolOp .And [a] pos) ρ G K :=
  WQ.of (pw_and1 pt_T) fun σ H rs rg => ⟨ρ, G, _, h, rs, rg, fun c H' q => q⟩
theorem w_or1 {K : Bool → AH → Prop} (h : BQ X a ρ G K) : WQ X (.BoolOp .Or [a] pos) ρ G K :=
  WQ.of (pw_or1 pt_T) fun σ H rs rg => ⟨ρ, G, _, h, rs, rg, fun c H' q => q⟩
theorem w_and {K : Bool → AH → Prop} {rest : List Expr} (h : BQ X a ρ G fun c G1 => ifB c (WQ X (.BoolOp .And (b :: rest) pos) ρ G1 K) (K false G1)) : WQ X (.BoolOp .And (a :: b :: rest) pos) ρ G K :=
  WQ.of (pw_and pt_T pw_W) fun σ H rs rg => ⟨ρ, G, _, h, rs, rg, fun c H' ⟨G', k, g, q⟩ => by
    cases c with
    | true => exact ⟨ρ, G', _, q.h, rs.mono k, g, fun d H2 z => z.pre k⟩
    | false => exact ⟨G', k, g, q.h⟩⟩
theorem w_or {K : Bool → AH → Prop} {rest : List Expr} (h : BQ X a ρ G fun c G1 => ifB c (K true G1) (WQ X (.BoolOp .Or (b :: rest) pos) ρ G1 K)) : WQ X (.BoolOp .Or (a :: b :: rest) pos) ρ G K :=
  WQ.of (pw_or pt_T pw_W) fun σ H rs rg => ⟨ρ, G, _, h, rs, rg, fun c H' ⟨G', k, g, q⟩ => by
    cases c with
    | false => exact ⟨ρ, G', _, q.h, rs.mono k, g, fun d H2 z => z.pre k⟩
    | true => exact ⟨G', k, g, q.h⟩⟩
theorem q_one {op : BoolOp} (h : EQ X a ρ G K) : EQ X (.BoolOp op [a] pos) ρ G K := EQ.of (pe_one pe_E) fun σ H rs rg => ⟨ρ, G, _, h, rs, rg, fun c H' q => q⟩
theorem q_and {rest : List Expr} (h : EQ X a ρ G (tst fun c G1 => ifB c (EQ X (.BoolOp .And (b :: rest) pos) ρ G1 K) (K (.bl false) G1))) : EQ X (.BoolOp .And (a :: b :: rest) pos) ρ G K :=
  EQ.of (pe_and pe_E pe_E) fun σ H rs rg => ⟨ρ, G, _, h, rs, rg, fun u H' q => by
    obtain ⟨c, e, G', k, g, q⟩ := tst_of q
    refine ⟨c, e, ?_⟩
    cases c with
    | true => exact ⟨ρ, G', _, q.h, rs.mono k, g, fun d H2 z => z.pre k⟩
    | false => exact ⟨.bl false, G', k, rfl, g, q.h⟩⟩
theorem q_or {rest : List Expr} (h : EQ X a ρ G (tst fun c G1 => ifB c (K (.bl true) G1) (EQ X (.BoolOp .Or (b :: rest) pos) ρ G1 K))) : EQ X (.BoolOp .Or (a :: b :: rest) pos) ρ G K :=
  EQ.of (pe_or pe_E pe_E) fun σ H rs rg => ⟨ρ, G, _, h, rs, rg, fun u H' q => by
    obtain ⟨c, e, G', k, g, q⟩ := tst_of q
    refine ⟨c, e, ?_⟩
    cases c with
    | false => exact ⟨ρ, G', _, q.h, rs.mono k, g, fun d H2 z => z.pre k⟩
    | true => exact ⟨.bl true, G', k, rfl, g, q.h⟩⟩
theorem q_not (h : EQ X a ρ G (tst fun c G1 => K (.bl (!c)) G1)) : EQ X (.UnaryOp .Not a pos) ρ G K :=
  EQ.of (pe_not pe_E) fun σ H rs rg => ⟨ρ, G, _, h, rs, rg, fun u H' q => by
    obtain ⟨c, e, G', k, g, q⟩ := tst_of q
    exact ⟨c, e, .bl (!c), G', k, rfl, g, q⟩⟩
theorem q_if {c : Expr} (h : BQ X c ρ G fun d G1 => ifB d (EQ X a ρ G1 K) (EQ X b ρ G1 K)) : EQ X (.IfExp c a b pos) ρ G K :=
  EQ.of (pe_ifExp pt_T pe_E pe_E) fun σ H rs rg => ⟨ρ, G, _, h, rs, rg, fun c H' ⟨G', k, g, q⟩ => by
    cases c with
    | true => exact ⟨ρ, G', _, q.h, rs.mono k, g, fun d H2 z => z.pre k⟩
    | false => exact ⟨ρ, G', _, q.h, rs.mono k, g, fun d H2 z => z.pre k⟩⟩

/-! ### arguments, displays -/
theorem a_nil {K : List W → AH → Prop} (k : K [] G) : AQ X [] ρ G K := AQ.of pa_nil fun σ H rs rg => ⟨[], G, Keep.refl, RVs.nil, rg, rfl, k⟩
theorem a_cons {K : List W → AH → Prop} {es : List Expr} (h : EQ X e ρ G fun w G1 => AQ X es ρ G1 fun ws G2 => K (w :: ws) G2) (hs : starEach (e :: es) X.env = (false, eval e X.env) :: starEach es X.env := by rfl) : AQ X (e :: es) ρ G K :=
  AQ.of (pa_cons pe_E pa_A hs) fun σ H rs rg => ⟨ρ, G, _, h, rs, rg, fun u H1 ⟨x, G1, k1, rx, rg1, hb⟩ => ⟨ρ, G1, _, hb, rs.mono k1, rg1, fun v H2 ⟨ws, G2, k2, ry, rg2, hl, q⟩ =>
    ⟨x :: ws, G2, k1.trans k2, .cons (rx.mono k2) ry, rg2, by rw [List.length_cons, hl, List.length_cons], q⟩⟩⟩
theorem small_ok {n m : Nat} (e : n = m) (h : Nat.ble m 100000 = true) : n ≤ sizeLine := by
  subst e
  exact Nat.le_trans (Nat.le_of_ble_eq_true h) (by decide)
theorem q_tup {es : List Expr} {x1 : Nat} (h : AQ X es ρ G fun ws G1 => K (.tup ws) G1) (hn : Nat.ble es.length 100000 = true := by rfl) : EQ X (.Tuple es x1 pos) ρ G K :=
  EQ.of (pe_tup pa_A) fun σ H rs rg => ⟨ρ, G, _, h, rs, rg, fun vs H1 ⟨ws, G1, k1, rx, rg1, hl, q⟩ =>
    ⟨small_ok (rx.length.symm.trans hl) hn, fun p hp => ⟨.tup ws, G1, k1.trans (Keep.new hp), ⟨p, vs, rfl, upd_same, rx.mono (Keep.new hp)⟩, rg1.tup hp, q⟩⟩⟩
theorem q_lst {es : List Expr} (h : AQ X es ρ G fun ws G1 => ∀ p, G1 p = none → K (.ref p) (aup G1 p (.lst ws))) (hn : Nat.ble es.length 100000 = true := by rfl) : EQ X (.List es pos) ρ G K :=
  EQ.of (pe_lst pa_A) fun σ H rs rg => ⟨ρ, G, _, h, rs, rg, fun vs H1 ⟨ws, G1, k1, rx, rg1, hl, q⟩ =>
    ⟨small_ok (rx.length.symm.trans hl) hn, fun p hp => ⟨.ref p, _, k1.trans (Keep.new hp), rfl, rg1.newL hp rx, q p (rg1.free hp)⟩⟩⟩
end

/-! ### + -/
def fAdd : WR := fun x y G K => match x, y with
  | .int i, .int j => K (.int (i + j)) G
  | .str i, .str j => i.length + j.length ≤ sizeLine ∧ K (.str (i ++ j)) G
  | .tup xs, .tup ys => xs.length + ys.length ≤ sizeLine ∧ K (.tup (xs ++ ys)) G
  | x, y => ∃ xs ys, LsA G x xs ∧ LsA G y ys ∧ xs.length + ys.length ≤ sizeLine ∧ ∀ p, G p = none → K (.ref p) (aup G p (.lst (xs ++ ys)))
def rAddU (K : PySem.W.Frag) : R2 := fun x y H Q => rI0 (fun i j => .int (i + j)) x y H Q ∨ (∃ i j, x = .str i ∧ y = .str j ∧ i.length + j.length ≤ sizeLine ∧ Q (.str (i ++ j)) H) ∨ rCatA K x y H Q ∨ rCatR x y H Q
theorem op_addU {X : Cx} : OpR X (binaryOp .Add) (rAddU X.K) := op_add.or (op_add_str.or (op_catA.or op_catR))
theorem rr_add {c : Ct} : RR c (rAddU c.K) fAdd := by
  intro x y u v H G K Q rx ry g h q
  have deep : (∃ xs ys, LsA G x xs ∧ LsA G y ys ∧ xs.length + ys.length ≤ sizeLine ∧ ∀ p, G p = none → K (.ref p) (aup G p (.lst (xs ++ ys)))) → rAddU c.K u v H Q := by
    rintro ⟨xs, ys, ha, hb, hl, k⟩
    obtain ⟨a, vs, e1, h1, r1⟩ := ha.rd g rx
    obtain ⟨b, us, e2, h2, r2⟩ := hb.rd g ry
    exact .inr (.inr (.inr ⟨a, b, vs, us, e1, e2, h1, h2, by rw [← r1.length, ← r2.length]; exact hl, fun p hp => q _ _ ⟨.ref p, _, Keep.new hp, rfl, g.newL hp (r1.append r2), k p (g.free hp)⟩⟩))
  cases x with
  | int i => cases y with
    | int j =>
      have e1 : u = .int i := rx
      have e2 : v = .int j := ry
      subst e1 e2
      exact .inl ⟨i, j, rfl, rfl, q _ _ (.stay (w := .int (i + j)) rfl g h)⟩
    | _ => exact deep h
  | str i => cases y with
    | str j =>
      have e1 : u = .str i := rx
      have e2 : v = .str j := ry
      subst e1 e2
      exact .inr (.inl ⟨i, j, rfl, rfl, h.1, q _ _ (.stay (w := .str (i ++ j)) rfl g h.2)⟩)
    | _ => exact deep h
  | tup xs => cases y with
    | tup ys =>
      obtain ⟨a, vs, rfl, ha, r1⟩ := rx
      obtain ⟨b, us, rfl, hb, r2⟩ := ry
      refine .inr (.inr (.inl ⟨a, b, vs, us, rfl, rfl, SqT.of ha, SqT.of hb, by rw [← r1.length, ← r2.length]; exact h.1, fun e => ?_, fun _ e => ?_, fun _ _ p hp => ?_⟩))
      · subst e
        have e : xs = [] := List.length_eq_zero_iff.mp r1.length
        subst e
        exact q _ _ (.stay (w := .tup ys) ⟨b, us, rfl, hb, r2⟩ g h.2)
      · subst e
        have e : ys = [] := List.length_eq_zero_iff.mp r2.length
        subst e
        refine q _ _ (.stay (w := .tup xs) ⟨a, vs, rfl, ha, r1⟩ g ?_)
        have := h.2
        rw [List.append_nil] at this
        exact this
      · exact q _ _ ⟨.tup (xs ++ ys), G, Keep.new hp, ⟨p, _, rfl, upd_same, (r1.append r2).mono (Keep.new hp)⟩, g.tup hp, h.2⟩
    | _ => exact deep h
  | _ => exact deep h
/-! ### whole numbers -/
def fI (C : Int → Int → Prop) (f : Int → Int → Int) : WR := fun x y G K => match x, y with
  | .int i, .int j => C i j ∧ K (.int (f i j)) G
  | _, _ => False
def fI0 (f : Int → Int → Int) : WR := fun x y G K => match x, y with
  | .int i, .int j => K (.int (f i j)) G
  | _, _ => False
def fIB (f : Int → Int → Bool) : WR := fun x y G K => match x, y with
  | .int i, .int j => K (.bl (f i j)) G
  | _, _ => False
theorem rr_I {c : Ct} {C : Int → Int → Prop} {f : Int → Int → Int} : RR c (rI C fun i j => .int (f i j)) (fI C f) := by
  intro x y u v H G K Q rx ry g h q
  cases x with
  | int i => cases y with
    | int j =>
      have e1 : u = .int i := rx
      have e2 : v = .int j := ry
      subst e1 e2
      exact ⟨i, j, rfl, rfl, h.1, q _ _ (.stay (w := .int (f i j)) rfl g h.2)⟩
    | _ => exact h.elim
  | _ => exact h.elim
theorem rr_I0 {c : Ct} {f : Int → Int → Int} : RR c (rI0 fun i j => .int (f i j)) (fI0 f) := by
  intro x y u v H G K Q rx ry g h q
  cases x with
  | int i => cases y with
    | int j =>
      have e1 : u = .int i := rx
      have e2 : v = .int j := ry
      subst e1 e2
      exact ⟨i, j, rfl, rfl, q _ _ (.stay (w := .int (f i j)) rfl g h)⟩
    | _ => exact h.elim
  | _ => exact h.elim
theorem rr_IB {c : Ct} {f : Int → Int → Bool} : RR c (rI0 fun i j => .bl (f i j)) (fIB f) := by
  intro x y u v H G K Q rx ry g h q
  cases x with
  | int i => cases y with
    | int j =>
      have e1 : u = .int i := rx
      have e2 : v = .int j := ry
      subst e1 e2
      exact ⟨i, j, rfl, rfl, q _ _ (.stay (w := .bl (f i j)) rfl g h)⟩
    | _ => exact h.elim
  | _ => exact h.elim
/-- * of numbers, list * number -/
def fMul : WR := fun x y G K => match x, y with
  | .int i, .int j => IntMulOk i j ∧ K (.int (i * j)) G
  | .ref a, .int k => ∃ xs, G a = some (.lst xs) ∧ k < 2 ^ 31 ∧ -(2 ^ 31) < k ∧ xs.length * k.toNat ≤ sizeLine ∧ ∀ p, G p = none → K (.ref p) (aup G p (.lst (List.replicate k.toNat xs).flatten))
  | _, _ => False
theorem RVs.rep {H : Hp} {ws : List W} {vs : List V} (h : RVs H ws vs) : ∀ k : Nat, RVs H (List.replicate k ws).flatten (List.replicate k vs).flatten
  | 0 => RVs.nil
  | k + 1 => by
    rw [List.replicate_succ, List.replicate_succ, List.flatten_cons, List.flatten_cons]
    exact h.append (RVs.rep h k)
theorem op_mulI {X : Cx} : OpR X (binaryOp .Mult) (rI IntMulOk fun i j => .int (i * j)) := opI fun _ _ _ _ _ _ _ hc q => mul_int q hc
theorem rr_mul {c : Ct} : RR c (fun x y H Q => rI IntMulOk (fun i j => .int (i * j)) x y H Q ∨ rRep x y H Q) fMul := by
  intro x y u v H G K Q rx ry g h q
  cases x with
  | int i => cases y with
    | int j =>
      have e1 : u = .int i := rx
      have e2 : v = .int j := ry
      subst e1 e2
      exact .inl ⟨i, j, rfl, rfl, h.1, q _ _ (.stay (w := .int (i * j)) rfl g h.2)⟩
    | _ => exact h.elim
  | ref a => cases y with
    | int k =>
      have e1 : u = .ref a := rx
      have e2 : v = .int k := ry
      subst e1 e2
      obtain ⟨xs, ha, h1, h2, hl, kk⟩ := h
      obtain ⟨vs, hv, r⟩ := g.lst ha
      exact .inr ⟨a, k, vs, rfl, rfl, hv, by omega, by omega, by rw [← r.length]; exact hl, fun p hp => q _ _ ⟨.ref p, _, Keep.new hp, rfl, g.newL hp (r.rep _), kk p (g.free hp)⟩⟩
    | _ => exact h.elim
  | _ => exact h.elim
def fSub : WR := fun x y G K => match x, y with
  | .int i, .int j => K (.int (i - j)) G
  | _, _ => False
def fFdiv : WR := fun x y G K => match x, y with
  | .int i, .int j => CDivW i j ∧ K (.int (i / j)) G
  | _, _ => False
def fMod : WR := fun x y G K => match x, y with
  | .int i, .int j => 0 < j ∧ K (.int (i % j)) G
  | _, _ => False
def fPow : WR := fun x y G K => match x, y with
  | .int i, .int j => CPow i j ∧ K (.int (i ^ j.toNat)) G
  | _, _ => False
theorem fSub_i {x y : W} {G : AH} {K : W → AH → Prop} (h : fSub x y G K) : fI0 (fun i j => i - j) x y G K := by
  cases x <;> cases y <;> exact h
theorem fFdiv_i {x y : W} {G : AH} {K : W → AH → Prop} (h : fFdiv x y G K) : fI CDivW (fun i j => i / j) x y G K := by
  cases x <;> cases y <;> exact h
theorem fMod_i {x y : W} {G : AH} {K : W → AH → Prop} (h : fMod x y G K) : fI (fun _ j => 0 < j) (fun i j => i % j) x y G K := by
  cases x <;> cases y <;> exact h
theorem fPow_i {x y : W} {G : AH} {K : W → AH → Prop} (h : fPow x y G K) : fI CPow (fun i j => i ^ j.toNat) x y G K := by
  cases x <;> cases y <;> exact h
section
variable {X : Cx} {a b e : Expr} {pos : Pos} {ρ : AS} {G : AH} {K : W → AH → Prop} {KB : Bool → AH → Prop}
theorem q_add (h : EQ X a ρ G fun x G1 => EQ X b ρ G1 fun y G2 => fAdd x y G2 K) : EQ X (.BinOp a .Add b pos) ρ G K := q_op op_addU rr_add h
theorem q_sub (h : EQ X a ρ G fun x G1 => EQ X b ρ G1 fun y G2 => fSub x y G2 K) : EQ X (.BinOp a .Sub b pos) ρ G K := q_op op_sub rr_I0 (h.mono fun _ _ h => h.mono fun _ _ h => fSub_i h)
theorem q_mul (h : EQ X a ρ G fun x G1 => EQ X b ρ G1 fun y G2 => fMul x y G2 K) : EQ X (.BinOp a .Mult b pos) ρ G K := q_op (op_mulI.or op_rep) rr_mul h
theorem q_fdiv (h : EQ X a ρ G fun x G1 => EQ X b ρ G1 fun y G2 => fFdiv x y G2 K) : EQ X (.BinOp a .FloorDiv b pos) ρ G K := q_op op_fdivW rr_I (h.mono fun _ _ h => h.mono fun _ _ h => fFdiv_i h)
theorem q_mod (h : EQ X a ρ G fun x G1 => EQ X b ρ G1 fun y G2 => fMod x y G2 K) : EQ X (.BinOp a .Mod b pos) ρ G K := q_op op_mod rr_I (h.mono fun _ _ h => h.mono fun _ _ h => fMod_i h)
theorem q_pow (h : EQ X a ρ G fun x G1 => EQ X b ρ G1 fun y G2 => fPow x y G2 K) : EQ X (.BinOp a .Pow b pos) ρ G K := q_op op_pow rr_I (h.mono fun _ _ h => h.mono fun _ _ h => fPow_i h)
theorem q_neg (h : EQ X a ρ G fun x G1 => onI x fun i => K (.int (-i)) G1) : EQ X (.UnaryOp .USub a pos) ρ G K :=
  EQ.of (pe_un un_neg pe_E) fun σ H rs rg => ⟨ρ, G, _, h, rs, rg, fun u H1 ⟨x, G1, k1, rx, rg1, q⟩ => by
    cases x with
    | int i => exact ⟨i, rx, .int (-i), G1, k1, rfl, rg1, q⟩
    | _ => exact q.elim⟩
def fLt : WR := fIB fun i j => decide (i < j)
def fLe : WR := fIB fun i j => decide (i ≤ j)
def fGt : WR := fIB fun i j => decide (j < i)
def fGe : WR := fIB fun i j => decide (j ≤ i)
theorem q_lt (h : EQ X a ρ G fun x G1 => EQ X b ρ G1 fun y G2 => fLt x y G2 K) : EQ X (.Compare a [.Lt] [b] pos) ρ G K := q_cmp op_lt rr_IB (nomark _) h
theorem q_le (h : EQ X a ρ G fun x G1 => EQ X b ρ G1 fun y G2 => fLe x y G2 K) : EQ X (.Compare a [.LtE] [b] pos) ρ G K := q_cmp op_le rr_IB (nomark _) h
theorem q_gt (h : EQ X a ρ G fun x G1 => EQ X b ρ G1 fun y G2 => fGt x y G2 K) : EQ X (.Compare a [.Gt] [b] pos) ρ G K := q_cmp op_gt rr_IB (nomark _) h
theorem q_ge (h : EQ X a ρ G fun x G1 => EQ X b ρ G1 fun y G2 => fGe x y G2 K) : EQ X (.Compare a [.GtE] [b] pos) ρ G K := q_cmp op_ge rr_IB (nomark _) h
theorem b_lt (h : EQ X a ρ G fun x G1 => EQ X b ρ G1 fun y G2 => fLt x y G2 (tst KB)) : BQ X (.Compare a [.Lt] [b] pos) ρ G KB := b_cmp op_lt rr_IB (nomark _) h
theorem b_le (h : EQ X a ρ G fun x G1 => EQ X b ρ G1 fun y G2 => fLe x y G2 (tst KB)) : BQ X (.Compare a [.LtE] [b] pos) ρ G KB := b_cmp op_le rr_IB (nomark _) h
theorem b_gt (h : EQ X a ρ G fun x G1 => EQ X b ρ G1 fun y G2 => fGt x y G2 (tst KB)) : BQ X (.Compare a [.Gt] [b] pos) ρ G KB := b_cmp op_gt rr_IB (nomark _) h
theorem b_ge (h : EQ X a ρ G fun x G1 => EQ X b ρ G1 fun y G2 => fGe x y G2 (tst KB)) : BQ X (.Compare a [.GtE] [b] pos) ρ G KB := b_cmp op_ge rr_IB (nomark _) h
end
end AL
namespace AL
open PySem PySem.Spec L2
open PyProof.Rows hiding St

/-! ### statements -/
section
variable {X : Cx} {a b e : Expr} {pos : Pos} {ρ : AS} {G : AH} {K : W → AH → Prop} {A : AEnds} {st : Stmt} {rest : List Stmt}
theorem DImp.refl {D : Ends} : DImp D D := ⟨fun _ _ h => h, fun _ _ h => h, fun _ _ h => h, fun _ _ h => h⟩
theorem s_nil (k : A.nx ρ G) : SQ X [] ρ G A := SQ.of pss_nil fun σ H rs rg => ⟨ρ, G, Keep.refl, rs, rg, k⟩
theorem s_cons (h : S1 X st ρ G { A with nx := fun ρ' G' => SQ X rest ρ' G' A }) : SQ X (st :: rest) ρ G A :=
  SQ.of (pss_cons ps_S pss_S) fun σ H rs rg => ⟨ρ, G, _, h, rs, rg, fun σ' H' ⟨ρ', G', k, rs', rg', q⟩ => ⟨ρ', G', A, q, rs', rg', CD.pre k⟩, fun _ _ z => z, fun _ _ z => z, fun _ _ z => z⟩
theorem s_pass (k : A.nx ρ G) : S1 X (.Pass pos) ρ G A := S1.of ps_pass fun σ H rs rg => ⟨ρ, G, Keep.refl, rs, rg, k⟩
theorem s_break (k : A.bk ρ G) : S1 X (.Break pos) ρ G A := S1.of ps_break fun σ H rs rg => ⟨ρ, G, Keep.refl, rs, rg, k⟩
theorem s_cont (k : A.ct ρ G) : S1 X (.Continue pos) ρ G A := S1.of ps_continue fun σ H rs rg => ⟨ρ, G, Keep.refl, rs, rg, k⟩
theorem s_expr (h : EQ X e ρ G fun _ G1 => A.nx ρ G1) (hs : swapsWith e none pos.line X.env = pure false := by rfl) : S1 X (.Expr e pos) ρ G A :=
  S1.of (ps_expr pe_E hs) fun σ H rs rg => ⟨ρ, G, _, h, rs, rg, fun u H1 ⟨x, G1, k1, rx, rg1, q⟩ => ⟨ρ, G1, k1, rs.mono k1, rg1, q⟩⟩
theorem s_ret (h : EQ X e ρ G A.rt) : S1 X (.Return (some e) pos) ρ G A := S1.of (ps_ret pe_E) fun σ H rs rg => ⟨ρ, G, _, h, rs, rg, fun u H1 q => q⟩
theorem s_retN (h : A.rt .non G) : S1 X (.Return none pos) ρ G A := S1.of ps_retN fun σ H rs rg => CW.stay (w := .non) rfl rg h
theorem s_if {c : Expr} {t u : List Stmt} (h : BQ X c ρ G fun d G1 => ifB d (SQ X t ρ G1 A) (SQ X u ρ G1 A)) : S1 X (.If c t u pos) ρ G A :=
  S1.of (ps_if pt_T pss_S pss_S) fun σ H rs rg => ⟨ρ, G, _, h, rs, rg, fun d H1 ⟨G1, k1, rg1, q⟩ => by
    cases d with
    | true => exact ⟨ρ, G1, A, q.h, rs.mono k1, rg1, CD.pre k1⟩
    | false => exact ⟨ρ, G1, A, q.h, rs.mono k1, rg1, CD.pre k1⟩⟩
/-- the state behind a statement told anew -/
theorem s_cut {P : AS → AH → Prop} (h : S1 X st ρ G { A with nx := P }) (k : ∀ ρ' G', P ρ' G' → A.nx ρ' G') : S1 X st ρ G A := h.mono k (fun _ _ z => z) (fun _ _ z => z) (fun _ _ z => z)

/-! ### freezing: a list that is not changed any more is held by value -/
section
variable {X : Cx} {e : Expr} {es : List Stmt} {ρ : AS} {G : AH} {K : W → AH → Prop} {A : AEnds}
theorem RG.lock {c : Ct} {H : Hp} {G : AH} {a : Addr} {od : Obj} {vs : List V} (g : RG c H G) (h : H a = some (.lst vs)) : Keep H (upd H a (.frz od (.lst vs))) ∧ RG c (upd H a (.frz od (.lst vs))) (adel G a) := by
  have k : Keep H (upd H a (.frz od (.lst vs))) := Keep.mut h trivial
  refine ⟨k, fun q o e => ?_⟩
  by_cases z : q = a
  · subst z; unfold adel at e; rw [if_pos rfl] at e; cases e
  · rw [adel_ne z] at e
    exact (g q o e).at (upd_ne z) k
def frz (K : W → AH → Prop) : W → AH → Prop := fun v G => match v with
  | .ref p => ∃ ws, G p = some (.lst ws) ∧ K (.lst ws) (adel G p)
  | _ => False
theorem q_v (h : EQ X e ρ G (frz K)) : EQ X e ρ G K := ⟨fun pins s σ H I rs rg => thn (h.run pins s σ H I rs rg) fun u s' ⟨v, H', I', r, w, G', k, rw', rg', q⟩ => by
  cases w with
  | ref p =>
    obtain ⟨ws, hp, q⟩ := q
    obtain ⟨vs, hv, rr⟩ := rg'.lst hp
    obtain ⟨od, I2⟩ := I'.lock hv trivial
    obtain ⟨k2, rg2⟩ := rg'.lock (od := od) hv
    exact ⟨v, _, I2, r, .lst ws, _, k.trans k2, ⟨p, vs, rw', ⟨od, upd_same⟩, rr.mono k2⟩, rg2, q⟩
  | _ => exact q.elim⟩
theorem frz_new {p : Addr} {ws : List W} (hp : G p = none) (k : K (.lst ws) G) : frz K (.ref p) (aup G p (.lst ws)) := ⟨ws, aup_same, by rw [adel_aup hp]; exact k⟩
theorem RS.setW {H : Hp} {σ : St} {w' : W} (h : RS H σ ρ) (i : Nat) (q : ∀ v, σ[i]? = some (some v) → RV H w' v) (hi : ∃ v : V, σ[i]? = some (some v)) : RS H σ (ρ.set i (some w')) := by
  refine ⟨by rw [List.length_set]; exact h.1, fun j w e => ?_⟩
  by_cases z : i = j
  · subst z
    obtain ⟨v, hv⟩ := hi
    by_cases l : i < ρ.length
    · rw [List.getElem?_set_self l] at e; cases e
      exact ⟨v, hv, q v hv⟩
    · rw [List.getElem?_eq_none (by simpa using l)] at e; cases e
  · rw [List.getElem?_set_ne z] at e
    exact h.2 j w e
/-- the list in the i-th slot -/
theorem s_frz (i : Nat) {a : Addr} {ws : List W} (hρ : ρ[i]? = some (some (.ref a))) (ha : G a = some (.lst ws)) (h : SQ X es (ρ.set i (some (.lst ws))) (adel G a) A) : SQ X es ρ G A := ⟨fun pins s σ H I rs rg => by
  obtain ⟨vs, hv, rr⟩ := rg.lst ha
  obtain ⟨od, I2⟩ := I.lock hv trivial
  obtain ⟨k2, rg2⟩ := rg.lock (od := od) hv
  obtain ⟨v, h1, h2⟩ := rs.2 i _ hρ
  have rs2 : RS (upd H a (.frz od (.lst vs))) σ (ρ.set i (some (.lst ws))) := (rs.mono k2).setW i (fun v' hv' => by
    rw [h1] at hv'; cases hv'
    exact ⟨a, vs, h2, ⟨od, upd_same⟩, rr.mono k2⟩) ⟨v, h1⟩
  exact thn (h.run pins s σ _ I2 rs2 rg2) fun u s' q => SP.imp (D := CD (cc X) _ A) q (CD.pre k2)⟩
/-- the list in the j-th place of the list at b -/
theorem s_frzIn {a b : Addr} {ws us : List W} (j : Nat) (hb : G b = some (.lst us)) (hj : us[j]? = some (.ref a)) (ha : G a = some (.lst ws)) (hab : b ≠ a) (h : SQ X es ρ (aup (adel G a) b (.lst (us.set j (.lst ws)))) A) : SQ X es ρ G A := ⟨fun pins s σ H I rs rg => by
  obtain ⟨vs, hv, rr⟩ := rg.lst ha
  obtain ⟨od, I2⟩ := I.lock hv trivial
  obtain ⟨k2, rg2⟩ := rg.lock (od := od) hv
  obtain ⟨vb, hvb, rb⟩ := rg.lst hb
  obtain ⟨v, h1, h2⟩ := rb.get hj
  have e : vb.set j v = vb := by
    obtain ⟨l, e⟩ := List.getElem?_eq_some_iff.mp h1
    rw [← e]; exact List.set_getElem_self l
  have q2 : RVs (upd H a (.frz od (.lst vs))) (us.set j (.lst ws)) vb := by
    have := (rb.mono k2).set (w := .lst ws) (v := v) ⟨a, vs, h2, ⟨od, upd_same⟩, rr.mono k2⟩ j
    rw [e] at this; exact this
  have rg3 : RG (cc X) (upd H a (.frz od (.lst vs))) (aup (adel G a) b (.lst (us.set j (.lst ws)))) := fun q o e => by
    by_cases z : q = b
    · subst z; rw [aup_same] at e; cases e
      exact ⟨vb, by rw [upd_ne hab]; exact hvb, q2⟩
    · rw [aup_ne z] at e; exact rg2 q o e
  exact thn (h.run pins s σ _ I2 (rs.mono k2) rg3) fun u s' q => SP.imp (D := CD (cc X) _ A) q (CD.pre k2)⟩
/-- returned by value -/
theorem s_retV {pos : Pos} (h : EQ X e ρ G (frz A.rt)) : S1 X (.Return (some e) pos) ρ G A := s_ret (q_v h)
end

/-! ### targets -/
theorem g_name {x : Str} {i : Nat} {w : W} {K : AS → AH → Prop} (hN : X.N.Nodup) (k : K (ρ.set i (some w)) G) (hi : X.N[i]? = some x := by rfl) (hx : Loc X.env.scope x := by first | exact .inl rfl | exact .inr rfl)
    (hf : X.fn x = true ∨ X.env.scope.names.lookup x = some .local := by first | exact .inl rfl | exact .inr rfl) : GQ X (.Name x pos) w ρ G K :=
  GQ.of (pg_name hN hi hx hf) fun v σ H rs rg rv => ⟨_, G, Keep.refl, rs.set i rv, rg, k⟩
theorem gs_nil {K : AS → AH → Prop} (k : K ρ G) : GsQ X [] [] ρ G K := GsQ.of pgs_nil fun v σ H rs rg rv => ⟨rv, ρ, G, Keep.refl, rs, rg, k⟩
theorem gs_cons {w : W} {ws : List W} {es : List Expr} {K : AS → AH → Prop} (h : GQ X e w ρ G fun ρ1 G1 => GsQ X es ws ρ1 G1 K)
    (hs : (assignEach (e :: es) X.env).map (·.2) = assign e X.env :: (assignEach es X.env).map (·.2) := by rfl) : GsQ X (e :: es) (w :: ws) ρ G K :=
  GsQ.of (pgs_cons pg_G pgs_G hs) fun v σ H rs rg ⟨v1, vr, e1, r1, r2⟩ => ⟨v1, vr, e1, w, ρ, G, _, h, rs, rg, r1, fun σ' H' ⟨ρ', G', k, rs', rg', q⟩ => ⟨ws, ρ', G', K, q, rs', rg', r2.mono k, fun _ _ z => z.pre k⟩⟩
def onT (z : W) (k : List W → Prop) : Prop := match z with
  | .tup xs => k xs
  | _ => False
theorem g_tup {es : List Expr} {kk n : Nat} {ws : List W} {K : AS → AH → Prop} (hl : ws.length = n) (h : GsQ X es ws ρ G K) (hc : X.calm = true := by rfl)
    (hn : (assignEach es X.env).length = n := by rfl) (hst : (assignEach es X.env).findIdx? (·.1) = none := by rfl) : GQ X (.Tuple es kk pos) (.tup ws) ρ G K :=
  GQ.of (pg_tup hc pgs_G hn hst) fun v σ H rs rg ⟨a, vs, e, ha, r⟩ => ⟨a, vs, e, SqT.of ha, r.length.symm.trans hl, ws, ρ, G, K, h, rs, rg, r, fun _ _ z => z⟩
/-- o[i] = .. : set RS': what is asked of o, i, the value -/
def SetR (c : Ct) (t : TSet) (R : W → W → W → AH → (AH → Prop) → Prop) : Prop := ∀ o i w u j v H G K (Q : Hp → Prop), RV H o u → RV H i j → RV H w v → RG c H G → R o i w G K → (∀ H' G', Keep H H' → RG c H' G' → K G' → Q H') → t u j v H Q
theorem g_sub {o i : Expr} {w : W} {t : TSet} {R : W → W → W → AH → (AH → Prop) → Prop} {K : AS → AH → Prop} (hs : PSet X t) (rr : SetR (cc X) t R) (h : EQ X o ρ G fun x G1 => EQ X i ρ G1 fun y G2 => R x y w G2 (K ρ))
    (ha : ∀ v, assign (.Subscript o i pos) X.env v = (do
      let ov ← holding [v] (eval o X.env)
      let iv ← holding [v, ov] (eval i X.env)
      standAt pos
      holding [v, ov, iv] (setItem ov iv v)
      release [v, ov, iv] []) := by intro _; rfl) : GQ X (.Subscript o i pos) w ρ G K :=
  GQ.of (pg_sub pe_E pe_E hs ha) fun v σ H rs rg rv => ⟨ρ, G, _, h, rs, rg, fun u H1 ⟨x, G1, k1, rx, rg1, hb⟩ => ⟨ρ, G1, _, hb, rs.mono k1, rg1, fun j H2 ⟨y, G2, k2, ry, rg2, hr⟩ =>
    rr x y w u j v H2 G2 _ _ (rx.mono k2) ry (rv.mono (k1.trans k2)) rg2 hr fun H' G' k3 g3 q => ⟨ρ, G', (k1.trans k2).trans k3, (rs.mono (k1.trans k2)).mono k3, g3, q⟩⟩⟩
/-- a list's item -/
def fSet : W → W → W → AH → (AH → Prop) → Prop := fun o i w G K => match o, i with
  | .ref a, .int k => ∃ xs j, G a = some (.lst xs) ∧ ixN xs.length k = some j ∧ K (aup G a (.lst (xs.set j w)))
  | _, _ => False
theorem sr_list {c : Ct} : SetR c rSetL fSet := by
  intro o i w u j v H G K Q ro ri rw' g h q
  cases o with
  | ref a => cases i with
    | int k =>
      have e1 : u = .ref a := ro
      have e2 : j = .int k := ri
      subst e1 e2
      obtain ⟨xs, jj, ha, hj, kk⟩ := h
      obtain ⟨vs, hv, r⟩ := g.lst ha
      obtain ⟨k3, g3⟩ := g.mutL hv (r.set rw' jj)
      exact ⟨a, vs, k, jj, rfl, rfl, hv, by rw [← r.length]; exact hj, q _ _ k3 g3 kk⟩
    | _ => exact h.elim
  | _ => exact h.elim
theorem g_ix {o i : Expr} {w : W} {K : AS → AH → Prop} (h : EQ X o ρ G fun x G1 => EQ X i ρ G1 fun y G2 => fSet x y w G2 (K ρ))
    (ha : ∀ v, assign (.Subscript o i pos) X.env v = (do
      let ov ← holding [v] (eval o X.env)
      let iv ← holding [v, ov] (eval i X.env)
      standAt pos
      holding [v, ov, iv] (setItem ov iv v)
      release [v, ov, iv] []) := by intro _; rfl) : GQ X (.Subscript o i pos) w ρ G K := g_sub set_list sr_list h ha
/-- target = value -/
theorem s_asg {tg : Expr} (h : EQ X e ρ G fun w G1 => GQ X tg w ρ G1 A.nx) (hs : swapsWithSole [tg] e pos.line X.env = pure false := by rfl) (hw : swappedStores [tg] e X.env = pure none := by rfl)
    (h1 : (assignEach [tg] X.env).map (·.2) = [assign tg X.env] := by rfl) : S1 X (.Assign [tg] e pos) ρ G A :=
  S1.of (ps_asg pe_E pg_G hs hw h1) fun σ H rs rg => ⟨ρ, G, _, h, rs, rg, fun u H1 ⟨x, G1, k1, rx, rg1, q⟩ => ⟨x, ρ, G1, _, q, rs.mono k1, rg1, rx, fun σ' H' z => z.pre k1⟩⟩
/-- name = value -/
theorem s_set {x : Str} {i : Nat} {pos' : Pos} (hN : X.N.Nodup) (h : EQ X e ρ G fun w G1 => A.nx (ρ.set i (some w)) G1) (hi : X.N[i]? = some x := by rfl) (hx : Loc X.env.scope x := by first | exact .inl rfl | exact .inr rfl)
    (hs : swapsWith e (some (.Name x pos')) pos.line X.env = pure false := by rfl) (hf : X.fn x = true ∨ X.env.scope.names.lookup x = some .local := by first | exact .inl rfl | exact .inr rfl) : S1 X (.Assign [.Name x pos'] e pos) ρ G A :=
  S1.of (ps_set hN hi hx pe_E hs hf) fun σ H rs rg => ⟨ρ, G, _, h, rs, rg, fun u H1 ⟨w, G1, k1, rx, rg1, q⟩ => ⟨_, G1, k1, (rs.mono k1).set i rx, rg1, q⟩⟩
/-- a, b = e1, e2 with plain local names -/
theorem s_par {i j : Nat} {x y : Str} {px py pt : Pos} {kt k2 : Nat} {pt2 : Pos} (hN : X.N.Nodup) (h : EQ X a ρ G fun w G1 => EQ X b ρ G1 fun w' G2 => A.nx ((ρ.set i (some w)).set j (some w')) G2)
    (hw : swappedStores [.Tuple [.Name x px, .Name y py] kt pt] (.Tuple [a, b] k2 pt2) X.env = pure (some [x, y]) := by rfl) (hs1 : starEach [b] X.env = (false, eval b X.env) :: starEach [] X.env := by rfl) (hs2 : starEach [a, b] X.env = (false, eval a X.env) :: starEach [b] X.env := by rfl) (hc : X.calm = true := by rfl) (hi : X.N[i]? = some x := by rfl) (hj : X.N[j]? = some y := by rfl) (hij : i ≠ j := by decide)
    (hx : X.env.scope.names.lookup x = some .local := by rfl) (hy : X.env.scope.names.lookup y = some .local := by rfl)
    (hs : swapsWithSole [.Tuple [.Name x px, .Name y py] kt pt] (.Tuple [a, b] k2 pt2) pos.line X.env = pure false := by rfl) : S1 X (.Assign [.Tuple [.Name x px, .Name y py] kt pt] (.Tuple [a, b] k2 pt2) pos) ρ G A :=
  S1.of (ps_par hc hN hi hj hij hx hy (pa_cons pe_E (pa_cons pe_E pa_nil hs1) hs2) hw hs) fun σ H rs rg => ⟨ρ, G, _, h, rs, rg, fun u H1 ⟨w, G1, k1, rx, rg1, q⟩ => ⟨ρ, G1, _, q, rs.mono k1, rg1, fun v H2 ⟨w', G2, k2, ry, rg2, q2⟩ =>
    ⟨u, v, rfl, _, G2, k1.trans k2, ((rs.mono (k1.trans k2)).set i (rx.mono k2)).set j ry, rg2, q2⟩⟩⟩
/-- name op= value, on whole numbers -/
theorem s_augI {x : Str} {i : Nat} {op : Operator} {f : Int → Int → Int} {z : Int} {pos' : Pos} (hN : X.N.Nodup) (ho : PIp X op (ipI f)) (hρ : ρ[i]? = some (some (.int z))) (h : EQ X e ρ G fun w G1 => onI w fun j => A.nx (ρ.set i (some (.int (f z j)))) G1)
    (hi : X.N[i]? = some x := by rfl) (hx : Loc X.env.scope x := by first | exact .inl rfl | exact .inr rfl)
    (hf : X.fn x = true ∨ X.env.scope.names.lookup x = some .local := by first | exact .inl rfl | exact .inr rfl) : S1 X (.AugAssign (.Name x pos') op e pos) ρ G A :=
  S1.of (ps_aug hN hi hx pe_E ho hf) fun σ H rs rg => by
    obtain ⟨v, h1, h2⟩ := rs.2 i _ hρ
    have e1 : v = .int z := h2
    subst e1
    refine ⟨_, h1, ρ, G, _, h, rs, rg, fun u H1 ⟨w, G1, k1, rx, rg1, q⟩ => ?_⟩
    cases w with
    | int j => exact ⟨z, j, rfl, rx, _, G1, k1, (rs.mono k1).set i (show RV H1 (.int (f z j)) (.int (f z j)) from rfl), rg1, q⟩
    | _ => exact q.elim
theorem s_addI {x : Str} {i : Nat} {z : Int} {pos' : Pos} (hN : X.N.Nodup) (hρ : ρ[i]? = some (some (.int z))) (h : EQ X e ρ G fun w G1 => onI w fun j => A.nx (ρ.set i (some (.int (z + j)))) G1)
    (hi : X.N[i]? = some x := by rfl) (hx : Loc X.env.scope x := by first | exact .inl rfl | exact .inr rfl)
    (hf : X.fn x = true ∨ X.env.scope.names.lookup x = some .local := by first | exact .inl rfl | exact .inr rfl) : S1 X (.AugAssign (.Name x pos') .Add e pos) ρ G A := s_augI hN ip_add hρ h hi hx hf
/-- while -/
theorem s_while {c : Expr} {body : List Stmt} (hp : PassesOwn (model X.prog X.w) X.A X.env X.xe) (P : AS → AH → Prop) (μ : AS → AH → Nat) (h0 : P ρ G)
    (h : ∀ ρ G, P ρ G → BQ X c ρ G fun d G1 => ifB d (SQ X body ρ G1 { A with nx := fun ρ' G' => P ρ' G' ∧ μ ρ' G' < μ ρ G, ct := fun ρ' G' => P ρ' G' ∧ μ ρ' G' < μ ρ G, bk := A.nx }) (A.nx ρ G1)) : S1 X (.While c body [] pos) ρ G A :=
  S1.of (ps_while hp pt_T pss_S) fun σ H rs rg => by
    refine ⟨fun m σ' H' => ∃ ρ' G', m = μ ρ' G' ∧ Keep H H' ∧ RS H' σ' ρ' ∧ RG (cc X) H' G' ∧ P ρ' G', ⟨_, ρ, G, rfl, Keep.refl, rs, rg, h0⟩, ?_⟩
    rintro m σ1 H1 ⟨ρ1, G1, rfl, k1, rs1, rg1, p1⟩
    refine ⟨ρ1, G1, _, h ρ1 G1 p1, rs1, rg1, fun d H2 ⟨G2, k2, rg2, q⟩ => ?_⟩
    cases d with
    | false => exact ⟨ρ1, G2, k1.trans k2, rs1.mono k2, rg2, q.h⟩
    | true =>
      refine ⟨fun σ' H' => ∃ ρ' G', (P ρ' G' ∧ μ ρ' G' < μ ρ1 G1) ∧ Keep H H' ∧ RS H' σ' ρ' ∧ RG (cc X) H' G', fun σ' H' ⟨ρ', G', ⟨p', l⟩, k, rs', rg'⟩ => ⟨_, l, ρ', G', rfl, k, rs', rg', p'⟩, ρ1, G2, _, q.h, rs1.mono k2, rg2, ?_⟩
      refine ⟨fun σ' H' ⟨ρ', G', k, rs', rg', q'⟩ => ⟨ρ', G', q', (k1.trans k2).trans k, rs', rg'⟩, fun _ _ z => z.pre (k1.trans k2), fun _ _ z => z.pre (k1.trans k2), fun σ' H' ⟨ρ', G', k, rs', rg', q'⟩ => ⟨ρ', G', q', (k1.trans k2).trans k, rs', rg'⟩⟩
end

/-! ### what is walked -/
/-- from H1 on, where ok stands, the iterator yields xs one by one -/
structure IterOk (c : Ct) (J : It) (H1 : Hp) (xs : List W) (ok : AH → Prop) : Prop where
  go : ∀ i H G, Keep H1 H → RG c H G → ok G → i < xs.length → J.go i H
  yld : ∀ i H G v H', Keep H1 H → RG c H G → ok G → i < xs.length → J.yld i H v H' → Keep H H' ∧ RG c H' G ∧ ∃ w, xs[i]? = some w ∧ RV H' w v
  stop : ∀ i H G, Keep H1 H → RG c H G → ok G → xs.length ≤ i → J.stop i H
abbrev IK := List W → (AH → Prop) → AH → Prop
def CI (c : Ct) (H : Hp) (R : IK) : It → Hp → Prop := fun J H' => ∃ xs ok G', Keep H H' ∧ RG c H' G' ∧ IterOk c J H' xs ok ∧ R xs ok G'
structure IQ (X : Cx) (tg iter : Expr) (ρ : AS) (G : AH) (R : IK) : Prop where
  run : ∀ (pins : List (Addr × Obj)) (s : Shared) (σ : St) (H : Hp), Inv X pins σ H s → RS H σ ρ → RG (cc X) H G →
    wpAny (model X.prog X.w) X.A (eval iter X.env) (fun v s1 => wpAny (model X.prog X.w) X.A (pyIter v) (PIE X pins σ tg (CI (cc X) H R)) X.xe s1) X.xe s
def tI (X : Cx) (tg iter : Expr) : TI := fun σ H R' => ∃ ρ G R, IQ X tg iter ρ G R ∧ RS H σ ρ ∧ RG (cc X) H G ∧ ∀ J H', CI (cc X) H R J H' → R' J H'
section
variable {X : Cx} {tg iter a b e : Expr} {pos : Pos} {ρ : AS} {G : AH} {R : IK} {A : AEnds}
theorem pi_I : PI X tg iter (tI X tg iter) := ⟨fun pins s σ H R' I ⟨ρ, G, R, h, rs, rg, k⟩ => thn (h.run pins s σ H I rs rg) fun v s1 q => thn q fun itv s2 ⟨it, fp, tn, J, H', e, I2, T, st, f, r⟩ => ⟨it, fp, tn, J, H', e, I2, T, st, f, k J H' r⟩⟩
theorem IQ.of {t : TI} (h : PI X tg iter t) (k : ∀ σ H, RS H σ ρ → RG (cc X) H G → t σ H (CI (cc X) H R)) : IQ X tg iter ρ G R := ⟨fun pins s σ H I rs rg => h.run pins s σ H _ I (k σ H rs rg)⟩
theorem s_for {body : List Stmt} (hp : PassesOwn (model X.prog X.w) X.A X.env X.xe) (hc : X.calm = true)
    (h : IQ X tg iter ρ G fun xs ok G1 => ∃ P : Nat → AS → AH → Prop, P 0 ρ G1 ∧ (∀ i ρ' G', i ≤ xs.length → P i ρ' G' → ok G') ∧
      (∀ i x ρ' G', xs[i]? = some x → P i ρ' G' → GQ X tg x ρ' G' fun ρ2 G2 => SQ X body ρ2 G2 { A with nx := P (i + 1), ct := P (i + 1), bk := A.nx }) ∧ ∀ ρ' G', P xs.length ρ' G' → A.nx ρ' G')
    (hs : ∀ x, foldedSetIterable iter X.env x = pure x := by intro _; rfl) : S1 X (.For tg iter body [] pos) ρ G A :=
  S1.of (ps_for hp hc pi_I pg_G pss_S hs) fun σ H rs rg => by
    refine ⟨ρ, G, _, h, rs, rg, ?_⟩
    rintro J H1 ⟨xs, ok, G1, k1, rg1, io, P, p0, pok, turn, fin⟩
    refine ⟨fun i m σ' H' => ∃ ρ' G', m = xs.length - i ∧ i ≤ xs.length ∧ Keep H1 H' ∧ RS H' σ' ρ' ∧ RG (cc X) H' G' ∧ P i ρ' G', ⟨_, ρ, G1, rfl, Nat.zero_le _, Keep.refl, rs.mono k1, rg1, p0⟩, ?_⟩
    rintro i m σ2 H2 ⟨ρ2, G2, rfl, hi, k2, rs2, rg2, p2⟩
    by_cases hlt : i < xs.length
    · refine .inr ⟨io.go i H2 G2 k2 rg2 (pok i ρ2 G2 hi p2) hlt, fun σ' H' => ∃ ρ' G', Keep H1 H' ∧ RS H' σ' ρ' ∧ RG (cc X) H' G' ∧ P (i + 1) ρ' G', fun σ' H' ⟨ρ', G', k, rs', rg', p'⟩ => ⟨xs.length - (i + 1), by omega, ρ', G', rfl, hlt, k, rs', rg', p'⟩, fun x H' y => ?_⟩
      obtain ⟨k3, rg3, w, hw, rw'⟩ := io.yld i H2 G2 x H' k2 rg2 (pok i ρ2 G2 hi p2) hlt y
      refine ⟨w, ρ2, G2, _, turn i w ρ2 G2 hw p2, rs2.mono k3, rg3, rw', ?_⟩
      rintro σ4 H4 ⟨ρ4, G4, k4, rs4, rg4, q4⟩
      have kk : Keep H1 H4 := (k2.trans k3).trans k4
      refine ⟨ρ4, G4, _, q4, rs4, rg4, ?_⟩
      exact ⟨fun σ' H' ⟨ρ', G', k, rs', rg', q'⟩ => ⟨ρ', G', kk.trans k, rs', rg', q'⟩, fun _ _ z => z.pre (k1.trans kk), fun _ _ z => z.pre (k1.trans kk), fun σ' H' ⟨ρ', G', k, rs', rg', q'⟩ => ⟨ρ', G', kk.trans k, rs', rg', q'⟩⟩
    · have e : i = xs.length := by omega
      subst e
      exact .inl ⟨io.stop _ H2 G2 k2 rg2 (pok _ ρ2 G2 hi p2) (Nat.le_refl _), ρ2, G2, k1.trans k2, rs2, rg2, fin ρ2 G2 p2⟩

/-! ### lists, tuples, ranges walked -/
theorem i_list (h : EQ X iter ρ G fun w G1 => ∃ xs, LsA G1 w xs ∧ R xs (fun G => LsA G w xs) G1) : IQ X tg iter ρ G R :=
  IQ.of (pi_list pe_E) fun σ H rs rg => ⟨ρ, G, _, h, rs, rg, fun u H1 ⟨w, G1, k1, rx, rg1, xs, ha, q⟩ => by
    obtain ⟨a, vs, e, hs, r⟩ := ha.sq rg1 rx
    subst e
    refine ⟨a, rfl, ⟨vs, hs⟩, xs, _, G1, k1, rg1, ⟨fun i H2 G2 k2 rg2 o2 hi => ?_, fun i H2 G2 v H3 k2 rg2 o2 hi y => ?_, fun i H2 G2 k2 rg2 o2 hi => ?_⟩, q⟩
    · obtain ⟨a2, vs2, e2, hv2, r2⟩ := LsA.sq rg2 o2 (rx.mono k2)
      cases e2
      obtain ⟨v, h1, _⟩ := r2.get (show xs[i]? = some xs[i] by simp [hi])
      exact ⟨vs2, v, hv2, h1⟩
    · obtain ⟨e, y⟩ := y
      subst e
      obtain ⟨a2, vs2, e2, hv2, r2⟩ := LsA.sq rg2 o2 (rx.mono k2)
      cases e2
      exact ⟨Keep.refl, rg2, r2.back (y vs2 hv2)⟩
    · obtain ⟨a2, vs2, e2, hv2, r2⟩ := LsA.sq rg2 o2 (rx.mono k2)
      cases e2
      exact ⟨vs2, hv2, by rw [← r2.length]; exact hi⟩⟩
theorem i_tup (h : EQ X iter ρ G fun w G1 => onT w fun xs => R xs (fun _ => True) G1) : IQ X tg iter ρ G R :=
  IQ.of (pi_tup pe_E) fun σ H rs rg => ⟨ρ, G, _, h, rs, rg, fun u H1 ⟨w, G1, k1, rx, rg1, q⟩ => by
    cases w with
    | tup xs =>
      obtain ⟨a, vs, e1, hv, r⟩ := rx
      subst e1
      refine ⟨a, rfl, ⟨vs, SqT.of hv⟩, xs, _, G1, k1, rg1, ⟨fun i H2 G2 k2 rg2 o2 hi => ?_, fun i H2 G2 v H3 k2 rg2 o2 hi y => ?_, fun i H2 G2 k2 rg2 o2 hi => ?_⟩, q⟩
      · obtain ⟨v, h1, _⟩ := r.get (show xs[i]? = some xs[i] by simp [hi])
        exact ⟨vs, v, SqT.of (k2.t _ _ hv), h1⟩
      · obtain ⟨e, y⟩ := y
        subst e
        obtain ⟨w, h1, h2⟩ := r.back (y vs (SqT.of (k2.t _ _ hv)))
        exact ⟨Keep.refl, rg2, w, h1, h2.mono k2⟩
      · exact ⟨vs, SqT.of (k2.t _ _ hv), by rw [← r.length]; exact hi⟩
    | _ => exact q.elim⟩
/-- lo, lo + c, .. (n of them) -/
def rngW (lo c : Int) (n : Nat) : List W := (List.range n).map fun i => W.int (lo + (i : Nat) * c)
theorem rngW_length (lo c : Int) (n : Nat) : (rngW lo c n).length = n := by simp [rngW]
theorem rngW_get {lo c : Int} {n i : Nat} (h : i < n) : (rngW lo c n)[i]? = some (.int (lo + (i : Nat) * c)) := by simp [rngW, h]
theorem rng_item {lo c : Int} {n m : Nat} {x : W} (h : (rngW lo c n)[m]? = some x) : m < n ∧ x = .int (lo + (m : Nat) * c) := by
  have l := (List.getElem?_eq_some_iff.mp h).1
  rw [rngW_length] at l
  rw [rngW_get l] at h
  exact ⟨l, (Option.some.inj h).symm⟩
theorem rng0_item {n m : Nat} {x : W} (h : (rngW 0 1 n)[m]? = some x) : m < n ∧ x = .int (m : Nat) := by
  obtain ⟨h1, h2⟩ := rng_item h
  refine ⟨h1, ?_⟩
  rw [h2]
  congr 1
  omega
theorem io_rng {c : Ct} {H1 : Hp} {lo : Int} {n : Nat} : IterOk c (Itr lo n) H1 (rngW lo 1 n) (fun _ => True) :=
  ⟨fun i H G _ _ _ hi => by rw [rngW_length] at hi; exact hi, fun i H G v H' _ rg _ hi y => by
    obtain ⟨e, y⟩ := y
    subst e y
    rw [rngW_length] at hi
    exact ⟨Keep.refl, rg, _, rngW_get hi, by show V.int (lo + i) = V.int (lo + (i : Nat) * 1); rw [Int.mul_one]⟩, fun i H G _ _ _ hi => by rw [rngW_length] at hi; exact hi⟩
theorem io_rngC {c : Ct} {H1 : Hp} {lo d : Int} {n : Nat} : IterOk c (Itc lo d n) H1 (rngW lo d n) (fun _ => True) :=
  ⟨fun i H G _ _ _ hi => by rw [rngW_length] at hi; exact hi, fun i H G v H' _ rg _ hi y => by
    obtain ⟨e, y⟩ := y
    subst e y
    rw [rngW_length] at hi
    exact ⟨Keep.refl, rg, _, rngW_get hi, rfl⟩, fun i H G _ _ _ hi => by rw [rngW_length] at hi; exact hi⟩
theorem i_range1 {p : Pos} (hg : Gl X "range") (hm : X.mg "range" = none) (h : EQ X a ρ G fun w G1 => onI w fun j => -(2 ^ 62) ≤ j ∧ j < 2 ^ 62 ∧ R (rngW 0 1 j.toNat) (fun _ => True) G1) (hs : starEach [a] X.env = (false, eval a X.env) :: starEach [] X.env := by rfl) :
    IQ X tg (.Call (.Name "range" p) [a] [] pos) ρ G R :=
  IQ.of (pi_range1 hg hm (pa_cons pe_E pa_nil hs) (by rw [hs]; rfl)) fun σ H rs rg => ⟨ρ, G, _, h, rs, rg, fun u H1 ⟨w, G1, k1, rx, rg1, q⟩ => by
    cases w with
    | int j =>
      have e1 : u = .int j := rx
      subst e1
      exact ⟨j, rfl, q.1, q.2.1, _, _, G1, k1, rg1, io_rng, q.2.2⟩
    | _ => exact q.elim⟩
theorem i_range2 {p : Pos} (hg : Gl X "range") (hm : X.mg "range" = none) (h : EQ X a ρ G fun w G1 => EQ X b ρ G1 fun w' G2 => onI w fun i => onI w' fun j => (-(2 ^ 62) ≤ i ∧ i < 2 ^ 62 ∧ -(2 ^ 62) ≤ j ∧ j < 2 ^ 62) ∧ R (rngW i 1 (j - i).toNat) (fun _ => True) G2)
    (hs : starEach [b] X.env = (false, eval b X.env) :: starEach [] X.env := by rfl) (hs2 : starEach [a, b] X.env = (false, eval a X.env) :: starEach [b] X.env := by rfl) :
    IQ X tg (.Call (.Name "range" p) [a, b] [] pos) ρ G R :=
  IQ.of (pi_range2 hg hm (pa_cons pe_E (pa_cons pe_E pa_nil hs) hs2) (by rw [hs2, hs]; rfl) (by rw [hs]; rfl)) fun σ H rs rg => ⟨ρ, G, _, h, rs, rg, fun u H1 ⟨w, G1, k1, rx, rg1, q⟩ => ⟨ρ, G1, _, q, rs.mono k1, rg1, fun u2 H2 ⟨w2, G2, k2, ry, rg2, q⟩ => by
    cases w with
    | int i =>
      cases w2 with
      | int j =>
        have e1 : u = .int i := rx
        subst e1
        have e2 : u2 = .int j := ry
        subst e2
        exact ⟨i, j, rfl, q.1, _, _, G2, k1.trans k2, rg2, io_rng, q.2⟩
      | _ => exact q.elim
    | _ => exact q.elim⟩⟩
theorem i_range3 {c : Expr} {p : Pos} (hg : Gl X "range") (hm : X.mg "range" = none) (h : EQ X a ρ G fun w G1 => EQ X b ρ G1 fun w' G2 => EQ X c ρ G2 fun w3 G3 => onI w fun i => onI w' fun j => onI w3 fun d => ∃ n, RgC i j d n ∧ R (rngW i d n) (fun _ => True) G3)
    (hs : starEach [c] X.env = (false, eval c X.env) :: starEach [] X.env := by rfl) (hs2 : starEach [b, c] X.env = (false, eval b X.env) :: starEach [c] X.env := by rfl) (hs3 : starEach [a, b, c] X.env = (false, eval a X.env) :: starEach [b, c] X.env := by rfl) :
    IQ X tg (.Call (.Name "range" p) [a, b, c] [] pos) ρ G R :=
  IQ.of (pi_range3 hg hm (pa_cons pe_E (pa_cons pe_E (pa_cons pe_E pa_nil hs) hs2) hs3) hs3 (by rw [hs2, hs]; rfl)) fun σ H rs rg => ⟨ρ, G, _, h, rs, rg, fun u H1 ⟨w, G1, k1, rx, rg1, q⟩ => ⟨ρ, G1, _, q, rs.mono k1, rg1, fun u2 H2 ⟨w2, G2, k2, ry, rg2, q⟩ =>
   ⟨ρ, G2, _, q, rs.mono (k1.trans k2), rg2, fun u3 H3 ⟨w3, G3, k3, rz, rg3, q⟩ => by
    cases w with
    | int i =>
      cases w2 with
      | int j =>
        cases w3 with
        | int d =>
          have e1 : u = .int i := rx
          subst e1
          have e2 : u2 = .int j := ry
          subst e2
          have e3 : u3 = .int d := rz
          subst e3
          obtain ⟨n, q1, q2⟩ := q
          exact ⟨i, j, d, n, rfl, q1, _, _, G3, (k1.trans k2).trans k3, rg3, io_rngC, q2⟩
        | _ => exact q.elim
      | _ => exact q.elim
    | _ => exact q.elim⟩⟩⟩
/-- enumerate of a list -/
def enW (xs : List W) : List W := xs.zipIdx.map fun p => .tup [.int (p.2 : Nat), p.1]
theorem enW_length (xs : List W) : (enW xs).length = xs.length := by simp [enW]
theorem enW_get {xs : List W} {i : Nat} {w : W} (h : xs[i]? = some w) : (enW xs)[i]? = some (.tup [.int (i : Nat), w]) := by simp [enW, h]
theorem i_enum {elts : List Expr} {kk : Nat} {p tpos : Pos} (hg : Gl X "enumerate") (hm : X.mg "enumerate" = none) (h : EQ X a ρ G fun w G1 => ∃ xs, LsA G1 w xs ∧ R (enW xs) (fun G => LsA G w xs) G1) (hs : starEach [a] X.env = (false, eval a X.env) :: starEach [] X.env := by rfl) :
    IQ X (.Tuple elts kk tpos) (.Call (.Name "enumerate" p) [a] [] pos) ρ G R :=
  IQ.of (pi_enum hg hm (pa_cons pe_E pa_nil hs) (by rw [hs]; rfl)) fun σ H rs rg => ⟨ρ, G, _, h, rs, rg, fun u H1 ⟨w, G1, k1, rx, rg1, xs, ha, q⟩ => by
    obtain ⟨a, vs, e, hsq, r⟩ := ha.sq rg1 rx
    subst e
    refine ⟨a, vs, rfl, hsq, enW xs, _, G1, k1, rg1, ⟨fun i H2 G2 k2 rg2 o2 hi => ?_, fun i H2 G2 v H3 k2 rg2 o2 hi y => ?_, fun i H2 G2 k2 rg2 o2 hi => ?_⟩, q⟩
    · rw [enW_length] at hi
      obtain ⟨a2, vs2, e2, hv2, r2⟩ := LsA.sq rg2 o2 (rx.mono k2)
      cases e2
      obtain ⟨v, h1, _⟩ := r2.get (show xs[i]? = some xs[i] by simp [hi])
      exact ⟨vs2, v, hv2, h1⟩
    · obtain ⟨T, x, e1, hT, e2, y⟩ := y
      subst e1 e2
      obtain ⟨a2, vs2, e2, hv2, r2⟩ := LsA.sq rg2 o2 (rx.mono k2)
      cases e2
      obtain ⟨w, h1, h2⟩ := r2.back (y vs2 hv2)
      exact ⟨Keep.new hT, rg2.tup hT, _, enW_get h1, T, _, rfl, upd_same, .cons (show RV _ (.int _) _ from rfl) (.cons (h2.mono (Keep.new hT)) RVs.nil)⟩
    · rw [enW_length] at hi
      obtain ⟨a2, vs2, e2, hv2, r2⟩ := LsA.sq rg2 o2 (rx.mono k2)
      cases e2
      exact ⟨vs2, hv2, by rw [← r2.length]; exact hi⟩⟩
/-- zip of two lists, of two tuples -/
def ziW (xs ys : List W) : List W := (xs.zip ys).map fun p => .tup [p.1, p.2]
theorem ziW_length (xs ys : List W) : (ziW xs ys).length = min xs.length ys.length := by simp [ziW]
theorem ziW_get {xs ys : List W} {i : Nat} {w v : W} (h : xs[i]? = some w) (h2 : ys[i]? = some v) : (ziW xs ys)[i]? = some (.tup [w, v]) := by
  have e : (xs.zip ys)[i]? = some (w, v) := by rw [List.getElem?_zip_eq_some]; exact ⟨h, h2⟩
  simp only [ziW, List.getElem?_map, e]
  rfl
theorem i_zip {elts : List Expr} {kk : Nat} {p tpos : Pos} (hg : Gl X "zip") (hm : X.mg "zip" = none) (h : EQ X a ρ G fun w G1 => EQ X b ρ G1 fun w' G2 => ∃ xs ys, LsA G2 w xs ∧ LsA G2 w' ys ∧ R (ziW xs ys) (fun G => LsA G w xs ∧ LsA G w' ys) G2)
    (hs : starEach [b] X.env = (false, eval b X.env) :: starEach [] X.env := by rfl) (hs2 : starEach [a, b] X.env = (false, eval a X.env) :: starEach [b] X.env := by rfl) :
    IQ X (.Tuple elts kk tpos) (.Call (.Name "zip" p) [a, b] [] pos) ρ G R :=
  IQ.of (pi_zip hg hm (pa_cons pe_E (pa_cons pe_E pa_nil hs) hs2) hs2 (by rw [hs]; rfl)) fun σ H rs rg => ⟨ρ, G, _, h, rs, rg, fun u H1 ⟨w, G1, k1, rx, rg1, q⟩ => ⟨ρ, G1, _, q, rs.mono k1, rg1, fun u2 H2 ⟨w2, G2, k2, ry, rg2, xs, ys, hl, hm', q2⟩ => by
    have rx := rx.mono k2
    obtain ⟨l, vs, e1, hv, _⟩ := hl.sq rg2 rx
    obtain ⟨m, us, e2, hu, _⟩ := hm'.sq rg2 ry
    subst e1 e2
    refine ⟨l, m, vs, us, rfl, hv, hu, ziW xs ys, _, G2, k1.trans k2, rg2, ⟨fun i H3 G3 k3 rg3 o3 hi => ?_, fun i H3 G3 v H4 k3 rg3 o3 hi y => ?_, fun i H3 G3 k3 rg3 o3 hi => ?_⟩, q2⟩
    · rw [ziW_length] at hi
      obtain ⟨a2, vs2, e2, hv2, r2⟩ := LsA.sq rg3 o3.1 (rx.mono k3)
      cases e2
      obtain ⟨a3, us2, e3, hu2, s2⟩ := LsA.sq rg3 o3.2 (ry.mono k3)
      cases e3
      obtain ⟨v, h1, _⟩ := r2.get (show xs[i]? = some (xs[i]'(by omega)) by simp [show i < xs.length by omega])
      obtain ⟨v', h2, _⟩ := s2.get (show ys[i]? = some (ys[i]'(by omega)) by simp [show i < ys.length by omega])
      exact ⟨vs2, us2, v, v', hv2, hu2, h1, h2⟩
    · obtain ⟨T, x, x', e1, hT, e2, y, y'⟩ := y
      subst e1 e2
      obtain ⟨a2, vs2, e2, hv2, r2⟩ := LsA.sq rg3 o3.1 (rx.mono k3)
      cases e2
      obtain ⟨a3, us2, e3, hu2, s2⟩ := LsA.sq rg3 o3.2 (ry.mono k3)
      cases e3
      obtain ⟨w, h1, h2⟩ := r2.back (y vs2 hv2)
      obtain ⟨w', h1', h2'⟩ := s2.back (y' us2 hu2)
      exact ⟨Keep.new hT, rg3.tup hT, _, ziW_get h1 h1', T, _, rfl, upd_same, .cons (h2.mono (Keep.new hT)) (.cons (h2'.mono (Keep.new hT)) RVs.nil)⟩
    · rw [ziW_length] at hi
      obtain ⟨a2, vs2, e2, hv2, r2⟩ := LsA.sq rg3 o3.1 (rx.mono k3)
      cases e2
      obtain ⟨a3, us2, e3, hu2, s2⟩ := LsA.sq rg3 o3.2 (ry.mono k3)
      cases e3
      exact ⟨vs2, us2, hv2, hu2, by rw [← r2.length, ← s2.length]; omega⟩⟩⟩
theorem i_zipT {elts : List Expr} {kk : Nat} {p tpos : Pos} (hg : Gl X "zip") (hm : X.mg "zip" = none) (h : EQ X a ρ G fun w G1 => EQ X b ρ G1 fun w' G2 => onT w fun xs => onT w' fun ys => R (ziW xs ys) (fun _ => True) G2)
    (hs : starEach [b] X.env = (false, eval b X.env) :: starEach [] X.env := by rfl) (hs2 : starEach [a, b] X.env = (false, eval a X.env) :: starEach [b] X.env := by rfl) :
    IQ X (.Tuple elts kk tpos) (.Call (.Name "zip" p) [a, b] [] pos) ρ G R :=
  IQ.of (RZ.pi_zipA hg hm (pa_cons pe_E (pa_cons pe_E pa_nil hs) hs2) hs2 (by rw [hs]; rfl)) fun σ H rs rg => ⟨ρ, G, _, h, rs, rg, fun u H1 ⟨w, G1, k1, rx, rg1, q⟩ => ⟨ρ, G1, _, q, rs.mono k1, rg1, fun u2 H2 ⟨w2, G2, k2, ry, rg2, q⟩ => by
    cases w with
    | tup xs =>
      cases w2 with
      | tup ys =>
        obtain ⟨l, vs, e1, hv, r⟩ := rx
        obtain ⟨m, us, e2, hu, r'⟩ := ry
        subst e1 e2
        have hv := k2.t _ _ hv
        have r := r.mono k2
        refine ⟨l, m, vs, us, rfl, .inr ⟨SqT.of hv, SqT.of hu, ziW xs ys, _, G2, k1.trans k2, rg2, ⟨fun i H3 G3 k3 rg3 o3 hi => ?_, fun i H3 G3 v H4 k3 rg3 o3 hi y => ?_, fun i H3 G3 k3 rg3 o3 hi => ?_⟩, q⟩⟩
        · rw [ziW_length] at hi
          obtain ⟨v, h1, _⟩ := r.get (show xs[i]? = some (xs[i]'(by omega)) by simp [show i < xs.length by omega])
          obtain ⟨v', h2, _⟩ := r'.get (show ys[i]? = some (ys[i]'(by omega)) by simp [show i < ys.length by omega])
          exact ⟨vs, us, v, v', SqT.of (k3.t _ _ hv), SqT.of (k3.t _ _ hu), h1, h2⟩
        · obtain ⟨T, x, x', e1, hT, e2, y, y'⟩ := y
          subst e1 e2
          obtain ⟨w, h1, h2⟩ := r.back (y vs (SqT.of (k3.t _ _ hv)))
          obtain ⟨w', h1', h2'⟩ := r'.back (y' us (SqT.of (k3.t _ _ hu)))
          exact ⟨Keep.new hT, rg3.tup hT, _, ziW_get h1 h1', T, _, rfl, upd_same, .cons (h2.mono (k3.trans (Keep.new hT))) (.cons (h2'.mono (k3.trans (Keep.new hT))) RVs.nil)⟩
        · rw [ziW_length] at hi
          exact ⟨vs, us, SqT.of (k3.t _ _ hv), SqT.of (k3.t _ _ hu), by rw [← r.length, ← r'.length]; omega⟩
      | _ => exact q.elim
    | _ => exact q.elim⟩⟩
end
end AL
namespace AL
open PySem PySem.Spec L2
open PyProof.Rows hiding St

/-! ### data -/
mutual
/-- None, whole numbers, texts, tuples of these -/
def okW : W → Bool
  | .non => true
  | .bl _ => false
  | .int _ => true
  | .str x => PyData.strOk x
  | .ref _ => false
  | .ty _ => false
  | .tup ws => okWs ws
  | .lst ws => okWs ws
def okWs : List W → Bool
  | [] => true
  | w :: ws => okW w && okWs ws
end
mutual
def dpW : W → Nat
  | .non => 0
  | .bl _ => 0
  | .int _ => 0
  | .str _ => 0
  | .ref _ => 0
  | .ty _ => 0
  | .tup ws => dpWs ws + 1
  | .lst ws => dpWs ws + 1
def dpWs : List W → Nat
  | [] => 0
  | w :: ws => max (dpW w) (dpWs ws)
end
mutual
def pdW : W → PyData
  | .non => .none
  | .bl b => .bool b
  | .int i => .int i
  | .str x => .str x
  | .ref _ => .none
  | .ty _ => .none
  | .tup ws => .tuple (pdWs ws)
  | .lst ws => .list (pdWs ws)
def pdWs : List W → List PyData
  | [] => []
  | w :: ws => pdW w :: pdWs ws
end
mutual
theorem pd_lay : ∀ w : W, okW w = true → (pdW w).canLay0 = true
  | .non, _ => rfl
  | .bl _, h => by simp [okW] at h
  | .int _, _ => rfl
  | .str x, h => by simpa [okW, pdW, PyData.canLay0] using h
  | .ref _, h => by simp [okW] at h
  | .ty _, h => by simp [okW] at h
  | .tup ws, h => by
    rw [pdW, PyData.canLay0]
    exact pds_lay ws (by simpa [okW] using h)
  | .lst ws, h => by
    rw [pdW, PyData.canLay0]
    exact pds_lay ws (by simpa [okW] using h)
theorem pds_lay : ∀ ws : List W, okWs ws = true → PyData.canLayAll0 (pdWs ws) = true
  | [], _ => rfl
  | w :: ws, h => by
    simp only [okWs, Bool.and_eq_true] at h
    rw [pdWs, PyData.canLayAll0, pd_lay w h.1, pds_lay ws h.2]; rfl
end
mutual
theorem pd_depth : ∀ w : W, (pdW w).depth = dpW w
  | .non => rfl
  | .bl _ => rfl
  | .int _ => rfl
  | .str _ => rfl
  | .ref _ => rfl
  | .ty _ => rfl
  | .tup ws => by rw [pdW, PyData.depth, dpW, pds_depth ws]
  | .lst ws => by rw [pdW, PyData.depth, dpW, pds_depth ws]
theorem pds_depth : ∀ ws : List W, PyData.depthAll (pdWs ws) = dpWs ws
  | [] => rfl
  | w :: ws => by rw [pdWs, PyData.depthAll, dpWs, pd_depth w, pds_depth ws]
end
mutual
theorem pd_eqv : ∀ a b : W, okW a = true → okW b = true → PyData.eqv (pdW a) (pdW b) = eqW a b
  | .non, b, _, h => by cases b <;> first | rfl | (simp [okW] at h; done) | simp [pdW, PyData.eqv, eqW]
  | .int a, b, _, h => by cases b <;> first | (simp [okW] at h; done) | simp [pdW, PyData.eqv, eqW, Bool.beq_eq_decide_eq]
  | .str a, b, _, h => by cases b <;> first | (simp [pdW, PyData.eqv, eqW, Bool.beq_eq_decide_eq]; done) | (simp [okW] at h; done)
  | .tup a, b, ha, hb => by cases b <;> first | (rw [pdW, pdW, PyData.eqv, eqW]; exact pds_eqv a _ (by simpa [okW] using ha) (by simpa [okW] using hb)) | (simp [okW] at hb; done) | simp [pdW, PyData.eqv, eqW]
  | .lst a, b, ha, hb => by cases b <;> first | (rw [pdW, pdW, PyData.eqv, eqW]; exact pds_eqv a _ (by simpa [okW] using ha) (by simpa [okW] using hb)) | (simp [okW] at hb; done) | simp [pdW, PyData.eqv, eqW]
  | .bl _, _, h, _ => by simp [okW] at h
  | .ref _, _, h, _ => by simp [okW] at h
  | .ty _, _, h, _ => by simp [okW] at h
theorem pds_eqv : ∀ a b : List W, okWs a = true → okWs b = true → PyData.eqvAll (pdWs a) (pdWs b) = eqWs a b
  | [], [], _, _ => rfl
  | a :: as, b :: bs, ha, hb => by
    simp only [okWs, Bool.and_eq_true] at ha hb
    show _ = (eqW a b && eqWs as bs)
    rw [pdWs, pdWs, PyData.eqvAll, pd_eqv a b ha.1 hb.1, pds_eqv as bs ha.2 hb.2]
  | [], _ :: _, _, _ => by simp [pdWs, PyData.eqvAll, eqWs]
  | _ :: _, [], _, _ => by simp [pdWs, PyData.eqvAll, eqWs]
end
mutual
/-- data with lists in it, as the heap has them -/
inductive DW (G : AH) : W → PyData → Prop
  | non : DW G .non .none
  | bl (b : Bool) : DW G (.bl b) (.bool b)
  | int (i : Int) : DW G (.int i) (.int i)
  | str (x : Str) : DW G (.str x) (.str x)
  | lst {a : Addr} {xs : List W} {ds : List PyData} : G a = some (.lst xs) → DWs G xs ds → DW G (.ref a) (.list ds)
  | tup {xs : List W} {ds : List PyData} : DWs G xs ds → DW G (.tup xs) (.tuple ds)
  | lsv {xs : List W} {ds : List PyData} : DWs G xs ds → DW G (.lst xs) (.list ds)
inductive DWs (G : AH) : List W → List PyData → Prop
  | nil : DWs G [] []
  | cons {v : W} {vs : List W} {d : PyData} {ds : List PyData} : DW G v d → DWs G vs ds → DWs G (v :: vs) (d :: ds)
end
mutual
theorem DW.low {c : Ct} {H : Hp} {G : AH} (g : RG c H G) : ∀ (d : PyData) (w : W) (v : V), DW G w d → RV H w v → Dp c.K H v d
  | .none, _, _, h, r => by cases h; cases (show _ = V.non from r); exact .non
  | .bool b, _, _, h, r => by cases h; cases (show _ = V.bl b from r); exact .bl b
  | .int i, _, _, h, r => by cases h; cases (show _ = V.int i from r); exact .int i
  | .str x, _, _, h, r => by cases h; cases (show _ = V.str x from r); exact .str x
  | .list ds, _, _, h, r => by
    cases h with
    | @lst a xs _ ha hs =>
      cases (show _ = V.ref a from r)
      obtain ⟨vs, hv, rr⟩ := g.lst ha
      exact .lst (SqL.of hv) (DWs.low g ds xs vs hs rr)
    | lsv hs =>
      obtain ⟨a, vs, e, ⟨o, ho⟩, rr⟩ := r
      subst e
      exact .lst (.inl (.inr ⟨o, ho⟩)) (DWs.low g ds _ vs hs rr)
  | .tuple ds, _, _, h, r => by
    cases h with
    | tup hs =>
      obtain ⟨a, vs, e, hv, rr⟩ := r
      subst e
      exact .tup (SqT.of hv) (DWs.low g ds _ vs hs rr)
  | .dict _, _, _, h, _ => by cases h
theorem DWs.low {c : Ct} {H : Hp} {G : AH} (g : RG c H G) : ∀ (ds : List PyData) (ws : List W) (vs : List V), DWs G ws ds → RVs H ws vs → DpAll c.K H vs ds
  | [], _, _, h, r => by cases h; cases (show _ = ([] : List V) from r); exact .nil
  | d :: ds, _, _, h, r => by
    cases h with
    | cons h1 h2 =>
      obtain ⟨v, vs, e, r1, r2⟩ := r
      subst e
      exact .cons (DW.low g d _ v h1 r1) (DWs.low g ds _ vs h2 r2)
end
mutual
theorem DW.of {G : AH} : ∀ w : W, okW w = true → DW G w (pdW w)
  | .non, _ => .non
  | .bl _, h => by simp [okW] at h
  | .int i, _ => .int i
  | .str x, _ => .str x
  | .ref _, h => by simp [okW] at h
  | .ty _, h => by simp [okW] at h
  | .tup ws, h => .tup (DWs.of ws (by simpa [okW] using h))
  | .lst ws, h => .lsv (DWs.of ws (by simpa [okW] using h))
theorem DWs.of {G : AH} : ∀ ws : List W, okWs ws = true → DWs G ws (pdWs ws)
  | [], _ => .nil
  | w :: ws, h => by
    simp only [okWs, Bool.and_eq_true] at h
    exact .cons (DW.of w h.1) (DWs.of ws h.2)
end
/-- == : scalars, tuples of data, else as data -/
def fEqB (neg : Bool) : WR := fun x y G K => match x, y with
  | .int i, .int j => K (.bl (if neg then !decide (i = j) else decide (i = j))) G
  | .str i, .str j => K (.bl (if neg then !decide (i = j) else decide (i = j))) G
  | .bl i, .bl j => K (.bl (if neg then !decide (i = j) else decide (i = j))) G
  | .tup i, .tup j => (okWs i && Nat.ble (dpWs i) 60 && (okWs j && Nat.ble (dpWs j) 60)) = true ∧ K (.bl (if neg then !eqWs i j else eqWs i j)) G
  | .lst i, .lst j => (okWs i && Nat.ble (dpWs i) 60 && (okWs j && Nat.ble (dpWs j) 60)) = true ∧ K (.bl (if neg then !eqWs i j else eqWs i j)) G
  | .non, .int _ | .int _, .non | .non, .str _ | .str _, .non | .int _, .str _ | .str _, .int _ => K (.bl (if neg then true else false)) G
  | x, y => ∃ d e, DW G x d ∧ DW G y e ∧ SeqAt.shaped d = true ∧ SeqAt.shaped e = true ∧ K (.bl (if neg then !PyData.eqv d e else PyData.eqv d e)) G
def fEq : WR := fEqB false
def fNe : WR := fEqB true
theorem shaped_tup {xs : List W} (h : (okWs xs && Nat.ble (dpWs xs) 60) = true) : SeqAt.shaped (pdW (.tup xs)) = true := by
  rw [Bool.and_eq_true] at h
  unfold SeqAt.shaped
  rw [pd_lay (.tup xs) (by simpa [okW] using h.1), Bool.true_and]
  refine decide_eq_true ?_
  rw [pd_depth, dpW]
  have := Nat.le_of_ble_eq_true h.2
  omega
theorem shaped_lst {xs : List W} (h : (okWs xs && Nat.ble (dpWs xs) 60) = true) : SeqAt.shaped (pdW (.lst xs)) = true := by
  rw [Bool.and_eq_true] at h
  unfold SeqAt.shaped
  rw [pd_lay (.lst xs) (by simpa [okW] using h.1), Bool.true_and]
  refine decide_eq_true ?_
  rw [pd_depth, dpW]
  have := Nat.le_of_ble_eq_true h.2
  omega
theorem shaped_ok {x : W} (h : (okW x && Nat.ble (dpW x) 60) = true) : SeqAt.shaped (pdW x) = true := by
  rw [Bool.and_eq_true] at h
  unfold SeqAt.shaped
  rw [pd_lay x h.1, Bool.true_and]
  refine decide_eq_true ?_
  rw [pd_depth]
  have := Nat.le_of_ble_eq_true h.2
  omega
def rEqU (K : PySem.W.Frag) : R2 := fun x y H Q => rEq x y H Q ∨ rEqD K x y H Q
def rNeU (K : PySem.W.Frag) : R2 := fun x y H Q => rNe x y H Q ∨ rNeD K x y H Q
theorem rr_eq {c : Ct} : RR c (rEqU c.K) fEq := by
  intro x y u v H G K Q rx ry g h q
  have deep : (∃ d e, DW G x d ∧ DW G y e ∧ SeqAt.shaped d = true ∧ SeqAt.shaped e = true ∧ K (.bl (PyData.eqv d e)) G) → rEqU c.K u v H Q := fun ⟨d, e, hd, he, sd, se, k⟩ =>
    .inr ⟨d, e, DW.low g d x u hd rx, DW.low g e y v he ry, sd, se, q _ _ (.stay (w := .bl _) rfl g k)⟩
  cases x with
  | int i => cases y with
    | int j => cases (show u = .int i from rx); cases (show v = .int j from ry); exact .inl ⟨rfl, q _ _ (.stay (w := .bl (decide (i = j))) (by show V.bl _ = V.bl _; simp) g h)⟩
    | non => cases (show u = .int i from rx); cases (show v = .non from ry); exact .inl ⟨rfl, q _ _ (.stay (w := .bl false) rfl g h)⟩
    | str j => cases (show u = .int i from rx); cases (show v = .str j from ry); exact .inl ⟨rfl, q _ _ (.stay (w := .bl false) rfl g h)⟩
    | _ => exact deep h
  | str i => cases y with
    | str j => cases (show u = .str i from rx); cases (show v = .str j from ry); exact .inl ⟨rfl, q _ _ (.stay (w := .bl (decide (i = j))) (by show V.bl _ = V.bl _; simp) g h)⟩
    | non => cases (show u = .str i from rx); cases (show v = .non from ry); exact .inl ⟨rfl, q _ _ (.stay (w := .bl false) rfl g h)⟩
    | int j => cases (show u = .str i from rx); cases (show v = .int j from ry); exact .inl ⟨rfl, q _ _ (.stay (w := .bl false) rfl g h)⟩
    | _ => exact deep h
  | bl i => cases y with
    | bl j => cases (show u = .bl i from rx); cases (show v = .bl j from ry); exact .inl ⟨rfl, q _ _ (.stay (w := .bl (decide (i = j))) (by show V.bl _ = V.bl _; simp) g h)⟩
    | _ => exact deep h
  | non => cases y with
    | int j => cases (show u = .non from rx); cases (show v = .int j from ry); exact .inl ⟨rfl, q _ _ (.stay (w := .bl false) rfl g h)⟩
    | str j => cases (show u = .non from rx); cases (show v = .str j from ry); exact .inl ⟨rfl, q _ _ (.stay (w := .bl false) rfl g h)⟩
    | _ => exact deep h
  | tup xs => cases y with
    | tup ys =>
      obtain ⟨hh, k⟩ := h
      rw [Bool.and_eq_true] at hh
      have o1 := (Bool.and_eq_true_iff.mp hh.1).1
      have o2 := (Bool.and_eq_true_iff.mp hh.2).1
      refine deep ⟨_, _, DW.of (.tup xs) (by simpa [okW] using o1), DW.of (.tup ys) (by simpa [okW] using o2), shaped_tup hh.1, shaped_tup hh.2, ?_⟩
      rw [pd_eqv (.tup xs) (.tup ys) (by simpa [okW] using o1) (by simpa [okW] using o2), eqW]
      exact k
    | _ => exact deep h
  | lst xs => cases y with
    | lst ys =>
      obtain ⟨hh, k⟩ := h
      rw [Bool.and_eq_true] at hh
      have o1 := (Bool.and_eq_true_iff.mp hh.1).1
      have o2 := (Bool.and_eq_true_iff.mp hh.2).1
      refine deep ⟨_, _, DW.of (.lst xs) (by simpa [okW] using o1), DW.of (.lst ys) (by simpa [okW] using o2), shaped_lst hh.1, shaped_lst hh.2, ?_⟩
      rw [pd_eqv (.lst xs) (.lst ys) (by simpa [okW] using o1) (by simpa [okW] using o2), eqW]
      exact k
    | _ => exact deep h
  | ref a => exact deep (by cases y <;> exact h)
  | ty a => exact deep (by cases y <;> exact h)
theorem rr_ne {c : Ct} : RR c (rNeU c.K) fNe := by
  intro x y u v H G K Q rx ry g h q
  have deep : (∃ d e, DW G x d ∧ DW G y e ∧ SeqAt.shaped d = true ∧ SeqAt.shaped e = true ∧ K (.bl (!PyData.eqv d e)) G) → rNeU c.K u v H Q := fun ⟨d, e, hd, he, sd, se, k⟩ =>
    .inr ⟨d, e, DW.low g d x u hd rx, DW.low g e y v he ry, sd, se, q _ _ (.stay (w := .bl _) rfl g k)⟩
  cases x with
  | int i => cases y with
    | int j => cases (show u = .int i from rx); cases (show v = .int j from ry); exact .inl ⟨rfl, q _ _ (.stay (w := .bl (!decide (i = j))) (by show V.bl _ = V.bl _; simp) g h)⟩
    | non => cases (show u = .int i from rx); cases (show v = .non from ry); exact .inl ⟨rfl, q _ _ (.stay (w := .bl true) rfl g h)⟩
    | str j => cases (show u = .int i from rx); cases (show v = .str j from ry); exact .inl ⟨rfl, q _ _ (.stay (w := .bl true) rfl g h)⟩
    | _ => exact deep h
  | str i => cases y with
    | str j => cases (show u = .str i from rx); cases (show v = .str j from ry); exact .inl ⟨rfl, q _ _ (.stay (w := .bl (!decide (i = j))) (by show V.bl _ = V.bl _; simp) g h)⟩
    | non => cases (show u = .str i from rx); cases (show v = .non from ry); exact .inl ⟨rfl, q _ _ (.stay (w := .bl true) rfl g h)⟩
    | int j => cases (show u = .str i from rx); cases (show v = .int j from ry); exact .inl ⟨rfl, q _ _ (.stay (w := .bl true) rfl g h)⟩
    | _ => exact deep h
  | bl i => cases y with
    | bl j => cases (show u = .bl i from rx); cases (show v = .bl j from ry); exact .inl ⟨rfl, q _ _ (.stay (w := .bl (!decide (i = j))) (by show V.bl _ = V.bl _; simp) g h)⟩
    | _ => exact deep h
  | non => cases y with
    | int j => cases (show u = .non from rx); cases (show v = .int j from ry); exact .inl ⟨rfl, q _ _ (.stay (w := .bl true) rfl g h)⟩
    | str j => cases (show u = .non from rx); cases (show v = .str j from ry); exact .inl ⟨rfl, q _ _ (.stay (w := .bl true) rfl g h)⟩
    | _ => exact deep h
  | tup xs => cases y with
    | tup ys =>
      obtain ⟨hh, k⟩ := h
      rw [Bool.and_eq_true] at hh
      have o1 := (Bool.and_eq_true_iff.mp hh.1).1
      have o2 := (Bool.and_eq_true_iff.mp hh.2).1
      refine deep ⟨_, _, DW.of (.tup xs) (by simpa [okW] using o1), DW.of (.tup ys) (by simpa [okW] using o2), shaped_tup hh.1, shaped_tup hh.2, ?_⟩
      rw [pd_eqv (.tup xs) (.tup ys) (by simpa [okW] using o1) (by simpa [okW] using o2), eqW]
      exact k
    | _ => exact deep h
  | lst xs => cases y with
    | lst ys =>
      obtain ⟨hh, k⟩ := h
      rw [Bool.and_eq_true] at hh
      have o1 := (Bool.and_eq_true_iff.mp hh.1).1
      have o2 := (Bool.and_eq_true_iff.mp hh.2).1
      refine deep ⟨_, _, DW.of (.lst xs) (by simpa [okW] using o1), DW.of (.lst ys) (by simpa [okW] using o2), shaped_lst hh.1, shaped_lst hh.2, ?_⟩
      rw [pd_eqv (.lst xs) (.lst ys) (by simpa [okW] using o1) (by simpa [okW] using o2), eqW]
      exact k
    | _ => exact deep h
  | ref a => exact deep (by cases y <;> exact h)
  | ty a => exact deep (by cases y <;> exact h)
/-- any data compared -/
theorem fEq_ok {x y : W} {G : AH} {K : W → AH → Prop} (h : (okW x && Nat.ble (dpW x) 60 && (okW y && Nat.ble (dpW y) 60)) = true) (k : K (.bl (eqW x y)) G) : fEq x y G K := by
  have gen : ∃ d e, DW G x d ∧ DW G y e ∧ SeqAt.shaped d = true ∧ SeqAt.shaped e = true ∧ K (.bl (if false = true then !PyData.eqv d e else PyData.eqv d e)) G := by
    rw [Bool.and_eq_true] at h
    refine ⟨_, _, DW.of x (Bool.and_eq_true_iff.mp h.1).1, DW.of y (Bool.and_eq_true_iff.mp h.2).1, shaped_ok h.1, shaped_ok h.2, ?_⟩
    rw [pd_eqv x y (Bool.and_eq_true_iff.mp h.1).1 (Bool.and_eq_true_iff.mp h.2).1]; exact k
  cases x <;> cases y <;> first | exact gen | exact k | (refine And.intro ?_ k; simp only [okW, dpW, Bool.and_eq_true, Nat.ble_eq] at h ⊢; exact ⟨⟨h.1.1, by omega⟩, h.2.1, by omega⟩) | (simp [okW] at h; done) | skip
theorem fNe_ok {x y : W} {G : AH} {K : W → AH → Prop} (h : (okW x && Nat.ble (dpW x) 60 && (okW y && Nat.ble (dpW y) 60)) = true) (k : K (.bl (!eqW x y)) G) : fNe x y G K := by
  have gen : ∃ d e, DW G x d ∧ DW G y e ∧ SeqAt.shaped d = true ∧ SeqAt.shaped e = true ∧ K (.bl (if true = true then !PyData.eqv d e else PyData.eqv d e)) G := by
    rw [Bool.and_eq_true] at h
    refine ⟨_, _, DW.of x (Bool.and_eq_true_iff.mp h.1).1, DW.of y (Bool.and_eq_true_iff.mp h.2).1, shaped_ok h.1, shaped_ok h.2, ?_⟩
    rw [pd_eqv x y (Bool.and_eq_true_iff.mp h.1).1 (Bool.and_eq_true_iff.mp h.2).1]; exact k
  cases x <;> cases y <;> first | exact gen | exact k | (refine And.intro ?_ k; simp only [okW, dpW, Bool.and_eq_true, Nat.ble_eq] at h ⊢; exact ⟨⟨h.1.1, by omega⟩, h.2.1, by omega⟩) | (simp [okW] at h; done) | skip
section
variable {X : Cx} {a b e : Expr} {pos : Pos} {ρ : AS} {G : AH} {K : W → AH → Prop} {KB : Bool → AH → Prop}
theorem q_eq (hu : X.A.units + 64 < cLine) (h : EQ X a ρ G fun x G1 => EQ X b ρ G1 fun y G2 => fEq x y G2 K) : EQ X (.Compare a [.Eq] [b] pos) ρ G K := q_cmp (op_eq.or (op_eqD hu)) rr_eq (nomark _) h
theorem q_ne (hu : X.A.units + 64 < cLine) (h : EQ X a ρ G fun x G1 => EQ X b ρ G1 fun y G2 => fNe x y G2 K) : EQ X (.Compare a [.NotEq] [b] pos) ρ G K := q_cmp (op_ne.or (op_neD hu)) rr_ne (nomark _) h
theorem b_eq (hu : X.A.units + 64 < cLine) (h : EQ X a ρ G fun x G1 => EQ X b ρ G1 fun y G2 => fEq x y G2 (tst KB)) : BQ X (.Compare a [.Eq] [b] pos) ρ G KB := b_cmp (op_eq.or (op_eqD hu)) rr_eq (nomark _) h
theorem b_ne (hu : X.A.units + 64 < cLine) (h : EQ X a ρ G fun x G1 => EQ X b ρ G1 fun y G2 => fNe x y G2 (tst KB)) : BQ X (.Compare a [.NotEq] [b] pos) ρ G KB := b_cmp (op_ne.or (op_neD hu)) rr_ne (nomark _) h
def rIsN : R2 := fun x y H Q => y = .non ∧ Q (.bl (decide (x = .non))) H
def rNotN : R2 := fun x y H Q => y = .non ∧ Q (.bl (!decide (x = .non))) H
theorem op_isN1 : OpR X (compareOp .Is) rIsN := op_isN
theorem op_notN1 : OpR X (compareOp .IsNot) rNotN := op_notN
/-- is None, is True -/
def isN : W → Bool
  | .non => true
  | _ => false
def fIsB (neg : Bool) : WR := fun x y G K => match y with
  | .non => K (.bl (if neg then !isN x else isN x)) G
  | .bl j => (match x with
    | .bl i => K (.bl (if neg then !decide (i = j) else decide (i = j))) G
    | _ => False)
  | _ => False
theorem isN_low {H : Hp} {x : W} {u : V} (r : RV H x u) : decide (u = .non) = isN x := by
  cases x with
  | non => cases (show u = .non from r); rfl
  | bl b => cases (show u = .bl b from r); rfl
  | int b => cases (show u = .int b from r); rfl
  | str b => cases (show u = .str b from r); rfl
  | ref b => cases (show u = .ref b from r); rfl
  | ty b => cases (show u = .ty b from r); rfl
  | tup b => obtain ⟨a, vs, e, _⟩ := r; subst e; rfl
  | lst b => obtain ⟨a, vs, e, _⟩ := r; subst e; rfl
theorem rr_is {c : Ct} : RR c (fun x y H Q => rIsN x y H Q ∨ rIsB x y H Q) (fIsB false) := by
  intro x y u v H G K Q rx ry g h q
  cases y with
  | non => cases (show v = .non from ry); exact .inl ⟨rfl, q _ _ (.stay (w := .bl (isN x)) (by rw [isN_low rx]; rfl) g h)⟩
  | bl j =>
    cases x with
    | bl i => cases (show u = .bl i from rx); cases (show v = .bl j from ry); exact .inr ⟨i, j, rfl, rfl, q _ _ (.stay (w := .bl (decide (i = j))) rfl g h)⟩
    | _ => exact h.elim
  | _ => exact h.elim
theorem rr_isn {c : Ct} : RR c (fun x y H Q => rNotN x y H Q ∨ rNotB x y H Q) (fIsB true) := by
  intro x y u v H G K Q rx ry g h q
  cases y with
  | non => cases (show v = .non from ry); exact .inl ⟨rfl, q _ _ (.stay (w := .bl (!isN x)) (by rw [isN_low rx]; rfl) g h)⟩
  | bl j =>
    cases x with
    | bl i => cases (show u = .bl i from rx); cases (show v = .bl j from ry); exact .inr ⟨i, j, rfl, rfl, q _ _ (.stay (w := .bl (!decide (i = j))) rfl g h)⟩
    | _ => exact h.elim
  | _ => exact h.elim
theorem q_is (h : EQ X a ρ G fun x G1 => EQ X b ρ G1 fun y G2 => fIsB false x y G2 K) : EQ X (.Compare a [.Is] [b] pos) ρ G K := q_cmp (op_isN1.or op_isBl) rr_is (nomark _) h
theorem q_isn (h : EQ X a ρ G fun x G1 => EQ X b ρ G1 fun y G2 => fIsB true x y G2 K) : EQ X (.Compare a [.IsNot] [b] pos) ρ G K := q_cmp (op_notN1.or op_notBl) rr_isn (nomark _) h
theorem b_is (h : EQ X a ρ G fun x G1 => EQ X b ρ G1 fun y G2 => fIsB false x y G2 (tst KB)) : BQ X (.Compare a [.Is] [b] pos) ρ G KB := b_cmp (op_isN1.or op_isBl) rr_is (nomark _) h
theorem b_isn (h : EQ X a ρ G fun x G1 => EQ X b ρ G1 fun y G2 => fIsB true x y G2 (tst KB)) : BQ X (.Compare a [.IsNot] [b] pos) ρ G KB := b_cmp (op_notN1.or op_notBl) rr_isn (nomark _) h
/-- a op1 b op2 c, on whole numbers -/
theorem b_chain {c : Expr} {op op' : CmpOp} {r r' : R2} {R R' : WR} (ho : OpR X (compareOp op) r) (ho' : OpR X (compareOp op') r') (rr : RR (cc X) r R) (rr' : RR (cc X) r' R') (hm : lastMarks [op, op'] [b, c] = false)
    (h : EQ X a ρ G fun x G1 => EQ X b ρ G1 fun y G2 => R x y G2 (tst fun k G3 => ifB k (EQ X c ρ G3 fun z G4 => R' y z G4 (tst KB)) (KB false G3))) : BQ X (.Compare a [op, op'] [b, c] pos) ρ G KB :=
  BQ.of (pt_chain ho ho' pe_E pe_E pe_E hm) fun σ H rs rg => ⟨ρ, G, _, h, rs, rg, fun u H1 ⟨x, G1, k1, rx, rg1, hb⟩ => ⟨ρ, G1, _, hb, rs.mono k1, rg1, fun v H2 ⟨y, G2, k2, ry, rg2, hr⟩ =>
    rr x y u v H2 G2 _ _ (rx.mono k2) ry rg2 hr fun z H' q => by
      obtain ⟨k, e, G3, k3, rg3, q⟩ := tst_of q
      refine ⟨k, e, ?_⟩
      cases k with
      | false => exact ⟨false, rfl, G3, (k1.trans k2).trans k3, rg3, q.h⟩
      | true => exact ⟨ρ, G3, _, q.h, rs.mono ((k1.trans k2).trans k3), rg3, fun w H4 ⟨z', G4, k4, rz, rg4, q4⟩ => rr' y z' v w H4 G4 _ _ (ry.mono (k3.trans k4)) rz rg4 q4 fun z2 H5 q5 => tst_of (q5.pre (((k1.trans k2).trans k3).trans k4))⟩⟩⟩
theorem b_le_lt {c : Expr} (h : EQ X a ρ G fun x G1 => EQ X b ρ G1 fun y G2 => fLe x y G2 (tst fun k G3 => ifB k (EQ X c ρ G3 fun z G4 => fLt y z G4 (tst KB)) (KB false G3))) (hm : lastMarks [.LtE, .Lt] [b, c] = false := by with_unfolding_all rfl) :
    BQ X (.Compare a [.LtE, .Lt] [b, c] pos) ρ G KB := b_chain op_le op_lt rr_IB rr_IB hm h
theorem b_le_le {c : Expr} (h : EQ X a ρ G fun x G1 => EQ X b ρ G1 fun y G2 => fLe x y G2 (tst fun k G3 => ifB k (EQ X c ρ G3 fun z G4 => fLe y z G4 (tst KB)) (KB false G3))) (hm : lastMarks [.LtE, .LtE] [b, c] = false := by with_unfolding_all rfl) :
    BQ X (.Compare a [.LtE, .LtE] [b, c] pos) ρ G KB := b_chain op_le op_le rr_IB rr_IB hm h

/-! ### x in xs -/
def fInD (neg : Bool) : WR := fun x y G K => ∃ d ds, DW G x d ∧ DW G y (.list ds) ∧ SeqAt.shaped d = true ∧ SeqAt.shaped (.list ds) = true ∧ K (.bl (if neg then !ds.any fun z => PyData.eqv z d else ds.any fun z => PyData.eqv z d)) G
theorem rr_inD {c : Ct} : RR c (rInD c.K) (fInD false) := by
  intro x y u v H G K Q rx ry g ⟨d, ds, h1, h2, s1, s2, k⟩ q
  exact ⟨d, ds, DW.low g d x u h1 rx, DW.low g _ y v h2 ry, s1, s2, q _ _ (.stay (w := .bl _) rfl g k)⟩
theorem rr_ninD {c : Ct} : RR c (rNotInD c.K) (fInD true) := by
  intro x y u v H G K Q rx ry g ⟨d, ds, h1, h2, s1, s2, k⟩ q
  exact ⟨d, ds, DW.low g d x u h1 rx, DW.low g _ y v h2 ry, s1, s2, q _ _ (.stay (w := .bl _) rfl g k)⟩
theorem q_in (hu : X.A.units + 65 < cLine) (h : EQ X a ρ G fun x G1 => EQ X b ρ G1 fun y G2 => fInD false x y G2 K) (hm : behindInMarks .In b = false := by rfl) : EQ X (.Compare a [.In] [b] pos) ρ G K := q_cmp (op_inD hu) rr_inD hm h
theorem q_nin (hu : X.A.units + 65 < cLine) (h : EQ X a ρ G fun x G1 => EQ X b ρ G1 fun y G2 => fInD true x y G2 K) (hm : behindInMarks .NotIn b = false := by rfl) : EQ X (.Compare a [.NotIn] [b] pos) ρ G K := q_cmp (op_notInD hu) rr_ninD hm h
theorem b_in (hu : X.A.units + 65 < cLine) (h : EQ X a ρ G fun x G1 => EQ X b ρ G1 fun y G2 => fInD false x y G2 (tst KB)) (hm : behindInMarks .In b = false := by rfl) : BQ X (.Compare a [.In] [b] pos) ρ G KB := b_cmp (op_inD hu) rr_inD hm h
theorem b_nin (hu : X.A.units + 65 < cLine) (h : EQ X a ρ G fun x G1 => EQ X b ρ G1 fun y G2 => fInD true x y G2 (tst KB)) (hm : behindInMarks .NotIn b = false := by rfl) : BQ X (.Compare a [.NotIn] [b] pos) ρ G KB := b_cmp (op_notInD hu) rr_ninD hm h

/-- data in a list of data -/
theorem any_pd {x : W} : ∀ xs : List W, okW x = true → okWs xs = true → (pdWs xs).any (fun z => PyData.eqv z (pdW x)) = xs.any fun z => eqW z x
  | [], _, _ => rfl
  | y :: ys, hx, h => by
    simp only [okWs, Bool.and_eq_true] at h
    rw [pdWs, List.any_cons, List.any_cons, pd_eqv y x h.1 hx, any_pd ys hx h.2]
theorem DWs.ofA {G : AH} {w : W} {xs : List W} (h : LsA G w xs) (o : okWs xs = true) : DW G w (.list (pdWs xs)) := by
  cases w with
  | lst ys => cases (show ys = xs from h); exact .lsv (DWs.of _ o)
  | ref a => exact .lst h (DWs.of xs o)
  | _ => exact h.elim
theorem fIn_ok {x y : W} {xs : List W} {G : AH} {K : W → AH → Prop} {neg : Bool} (hy : LsA G y xs) (h : (okW x && Nat.ble (dpW x) 60 && (okWs xs && Nat.ble (dpWs xs) 60)) = true) (k : K (.bl (if neg then !xs.any fun z => eqW z x else xs.any fun z => eqW z x)) G) : fInD neg x y G K := by
  rw [Bool.and_eq_true] at h
  have o1 := (Bool.and_eq_true_iff.mp h.1).1
  have o2 := (Bool.and_eq_true_iff.mp h.2).1
  refine ⟨_, _, DW.of x o1, DWs.ofA hy o2, shaped_ok h.1, shaped_lst h.2, ?_⟩
  rw [any_pd xs o1 o2]; exact k
/-! ### items, slices -/
def onO {α : Type} (o : Option α) (k : α → Prop) : Prop := match o with
  | some v => k v
  | none => False
def fIx : WR := fun x y G K => match x, y with
  | .tup xs, .int i => onO (atI xs i) fun v => K v G
  | .ref a, .int i => ∃ xs v, G a = some (.lst xs) ∧ atI xs i = some v ∧ K v G
  | .lst xs, .int i => onO (atI xs i) fun v => K v G
  | .str z, .int i => z.length ≤ sizeLine ∧ ∃ c, atI z.cps.toList i = some c ∧ K (.str ⟨#[c]⟩) G
  | _, _ => False
theorem RVs.atI {H : Hp} {ws : List W} {vs : List V} {i : Int} {w : W} (r : RVs H ws vs) (h : atI ws i = some w) : ∃ v, L2.atI vs i = some v ∧ RV H w v := by
  unfold L2.atI at h ⊢
  rw [← r.length]
  cases e : ixN ws.length i with
  | none => rw [e] at h; cases h
  | some j =>
    rw [e] at h
    obtain ⟨v, h1, h2⟩ := r.get (show ws[j]? = some w from h)
    exact ⟨v, h1, h2⟩
theorem rr_ix {c : Ct} : RR c (rIx c.K) fIx := by
  intro x y u v H G K Q rx ry g h q
  cases y with
  | int i =>
    cases (show v = .int i from ry)
    cases x with
    | tup xs =>
      obtain ⟨a, vs, e, hv, r⟩ := rx
      subst e
      have h : onO (atI xs i) fun v => K v G := h
      cases e : atI xs i with
      | none => rw [e] at h; exact h.elim
      | some w =>
        rw [e] at h
        obtain ⟨v, h1, h2⟩ := r.atI e
        exact .inr (.inl ⟨a, vs, i, v, rfl, rfl, SqT.of hv, h1, q _ _ (.stay h2 g h)⟩)
    | lst xs =>
      obtain ⟨a, vs, e, hv, r⟩ := RV.sqL (K := c.K) rx
      subst e
      have h : onO (atI xs i) fun v => K v G := h
      cases e : atI xs i with
      | none => rw [e] at h; exact h.elim
      | some w =>
        rw [e] at h
        obtain ⟨v, h1, h2⟩ := r.atI e
        exact .inl ⟨a, vs, i, v, rfl, rfl, hv, h1, q _ _ (.stay h2 g h)⟩
    | ref a =>
      cases (show u = .ref a from rx)
      obtain ⟨xs, w, ha, e, k⟩ := h
      obtain ⟨vs, hv, r⟩ := g.lst ha
      obtain ⟨v, h1, h2⟩ := r.atI e
      exact .inl ⟨a, vs, i, v, rfl, rfl, SqL.of hv, h1, q _ _ (.stay h2 g k)⟩
    | str z =>
      cases (show u = .str z from rx)
      obtain ⟨hz, c, e, k⟩ := h
      exact .inr (.inr ⟨z, i, c, rfl, rfl, hz, e, q _ _ (.stay (w := .str _) rfl g k)⟩)
    | _ => exact h.elim
  | _ => cases x <;> exact h.elim
theorem q_ix (h : EQ X a ρ G fun x G1 => EQ X b ρ G1 fun y G2 => fIx x y G2 K) (hs : PlainIx b := by exact fun _ _ => rfl) : EQ X (.Subscript a b pos) ρ G K :=
  EQ.of (pe_ix ix_seq pe_E pe_E hs) fun σ H rs rg => ⟨ρ, G, _, h, rs, rg, fun u H1 ⟨x, G1, k1, rx, rg1, hb⟩ => ⟨ρ, G1, _, hb, rs.mono k1, rg1, fun v H2 ⟨y, G2, k2, ry, rg2, hr⟩ =>
    rr_ix x y u v H2 G2 K _ (rx.mono k2) ry rg2 hr fun z H' q => q.pre (k1.trans k2)⟩⟩
def cutW (xs : List W) (lo hi : Option Int) : List W := (xs.drop (HT.sIx xs.length 0 lo)).take (HT.sIx xs.length xs.length hi - HT.sIx xs.length 0 lo)
theorem RVs.cut {H : Hp} {ws : List W} {vs : List V} (r : RVs H ws vs) (lo hi : Option Int) : RVs H (cutW ws lo hi) (cutV vs lo hi) := by
  unfold cutW cutV
  rw [← r.length]
  exact (r.drop _).take _
/-- a part of a slice -/
def CO (c : Ct) (H : Hp) (K : Option Int → AH → Prop) : Option Int → Hp → Prop := fun o H' => ∃ G', Keep H H' ∧ RG c H' G' ∧ K o G'
structure OQ (X : Cx) (e : Option Expr) (ρ : AS) (G : AH) (K : Option Int → AH → Prop) : Prop where
  run : ∀ (pins : List (Addr × Obj)) (s : Shared) (σ : St) (H : Hp), Inv X pins σ H s → RS H σ ρ → RG (cc X) H G →
    wpAny (model X.prog X.w) X.A (evalPart e X.env) (fun v s' => ∃ o H', Inv X pins σ H' s' ∧ IsPart v o ∧ CO (cc X) H K o H') X.xe s
def tO (X : Cx) (e : Option Expr) : TO := fun σ H Q => ∃ ρ G K, OQ X e ρ G K ∧ RS H σ ρ ∧ RG (cc X) H G ∧ ∀ o H', CO (cc X) H K o H' → Q o H'
theorem po_O {e : Option Expr} : PO X e (tO X e) := ⟨fun pins s σ H Q I ⟨ρ, G, K, h, rs, rg, k⟩ => thn (h.run pins s σ H I rs rg) fun u s' ⟨v, H', I', r, q⟩ => ⟨v, H', I', r, k v H' q⟩⟩
theorem OQ.of {e : Option Expr} {t : TO} {K : Option Int → AH → Prop} (h : PO X e t) (k : ∀ σ H, RS H σ ρ → RG (cc X) H G → t σ H (CO (cc X) H K)) : OQ X e ρ G K := ⟨fun pins s σ H I rs rg => h.run pins s σ H _ I (k σ H rs rg)⟩
theorem o_non {K : Option Int → AH → Prop} (k : K none G) : OQ X none ρ G K := OQ.of po_none fun σ H rs rg => ⟨G, Keep.refl, rg, k⟩
theorem o_some {K : Option Int → AH → Prop} (h : EQ X e ρ G fun w G1 => onI w fun i => K (some i) G1) : OQ X (some e) ρ G K :=
  OQ.of (po_some pe_E) fun σ H rs rg => ⟨ρ, G, _, h, rs, rg, fun u H1 ⟨x, G1, k1, rx, rg1, h⟩ => by
    cases x with
    | int i => exact ⟨i, rx, G1, k1, rg1, h⟩
    | _ => exact h.elim⟩
def fSl (x : W) (lo hi : Option Int) (G : AH) (K : W → AH → Prop) : Prop := match x with
  | .tup xs => K (.tup (cutW xs lo hi)) G
  | .ref a => ∃ xs, G a = some (.lst xs) ∧ ∀ p, G p = none → K (.ref p) (aup G p (.lst (cutW xs lo hi)))
  | .lst xs => ∀ p, G p = none → K (.ref p) (aup G p (.lst (cutW xs lo hi)))
  | .str z => z.length ≤ sizeLine ∧ K (.str (cutS z lo hi)) G
  | _ => False
def rSlU (K : PySem.W.Frag) : V → Option Int → Option Int → Hp → VK → Prop := fun x lo hi H Q => rSlA K x lo hi H Q ∨ rSlL K x lo hi H Q ∨ rSlS x lo hi H Q
theorem rr_sl {c : Ct} (x : W) (u : V) (lo hi : Option Int) (H : Hp) (G : AH) (K : W → AH → Prop) (Q : VK) (rx : RV H x u) (g : RG c H G) (h : fSl x lo hi G K) (q : ∀ z H', CW c H K z H' → Q z H') : rSlU c.K u lo hi H Q := by
  cases x with
  | tup xs =>
    obtain ⟨a, vs, e, hv, r⟩ := rx
    subst e
    refine .inl ⟨a, vs, rfl, SqT.of hv, fun hw => ?_, fun hw p hp => ?_⟩
    · have e : cutW xs lo hi = xs := by
        rw [← r.length] at hw
        unfold cutW
        rw [hw.1, hw.2]
        simp
      have h : K (.tup (cutW xs lo hi)) G := h
      rw [e] at h
      exact q _ _ (.stay (w := .tup xs) ⟨a, vs, rfl, hv, r⟩ g h)
    · exact q _ _ ⟨.tup (cutW xs lo hi), G, Keep.new hp, ⟨p, _, rfl, upd_same, (r.cut lo hi).mono (Keep.new hp)⟩, g.tup hp, h⟩
  | lst xs =>
    obtain ⟨a, vs, e, hv, r⟩ := RV.sqL (K := c.K) rx
    subst e
    exact .inr (.inl ⟨a, vs, rfl, hv, fun p hp => q _ _ ⟨.ref p, _, Keep.new hp, rfl, g.newL hp (r.cut lo hi), h p (g.free hp)⟩⟩)
  | ref a =>
    cases (show u = .ref a from rx)
    obtain ⟨xs, ha, k⟩ := h
    obtain ⟨vs, hv, r⟩ := g.lst ha
    exact .inr (.inl ⟨a, vs, rfl, SqL.of hv, fun p hp => q _ _ ⟨.ref p, _, Keep.new hp, rfl, g.newL hp (r.cut lo hi), k p (g.free hp)⟩⟩)
  | str z =>
    cases (show u = .str z from rx)
    exact .inr (.inr ⟨z, rfl, h.1, q _ _ (.stay (w := .str _) rfl g h.2)⟩)
  | _ => exact h.elim
theorem q_sl {lo hi : Option Expr} {p2 : Pos} (h : EQ X a ρ G fun x G1 => OQ X lo ρ G1 fun l G2 => OQ X hi ρ G2 fun u G3 => fSl x l u G3 K) : EQ X (.Subscript a (.Slice lo hi none p2) pos) ρ G K :=
  EQ.of (pe_slice (sl_tupA.or (sl_list.or sl_str)) pe_E po_O po_O) fun σ H rs rg => ⟨ρ, G, _, h, rs, rg, fun u H1 ⟨x, G1, k1, rx, rg1, hb⟩ => ⟨ρ, G1, _, hb, rs.mono k1, rg1, fun l H2 ⟨G2, k2, rg2, hr⟩ => ⟨ρ, G2, _, hr, rs.mono (k1.trans k2), rg2, fun r H3 ⟨G3, k3, rg3, hq⟩ =>
    rr_sl x u l r H3 G3 K _ (rx.mono (k2.trans k3)) rg3 hq fun z H' q => q.pre ((k1.trans k2).trans k3)⟩⟩⟩
/-- a slice of a list that is read alone (the script) -/
def fSlF (x : W) (lo hi : Option Int) (G : AH) (K : W → AH → Prop) : Prop := match x with
  | .ref a => ∃ xs, G a = some (.fro xs) ∧ ∀ p, G p = none → K (.ref p) (aup G p (.lst (cutW xs lo hi)))
  | _ => False
end
end AL
namespace AL
open PySem PySem.Spec L2
open PyProof.Rows hiding St

/-! ### dicts whose keys are tuples -/
section
variable {κ : Type} [DecidableEq κ]
def lk (kws : List (κ × W)) (k : κ) : Option W := (kws.find? fun kv => decide (kv.1 = k)).map (·.2)
def pk (kws : List (κ × W)) (k : κ) (v : W) : List (κ × W) := if (lk kws k).isSome = true then kws.map (fun kv => if kv.1 = k then (kv.1, v) else kv) else kws ++ [(k, v)]
theorem lk_nil {k : κ} : lk ([] : List (κ × W)) k = none := rfl
theorem lk_cons {p : κ × W} {r : List (κ × W)} {k : κ} : lk (p :: r) k = if p.1 = k then some p.2 else lk r k := by
  unfold lk
  by_cases e : p.1 = k
  · simp [List.find?_cons, e]
  · simp [List.find?_cons, e]
theorem lk_app {r : List (κ × W)} {k j : κ} {v : W} : lk (r ++ [(j, v)]) k = (lk r k).or (if j = k then some v else none) := by
  induction r with
  | nil => rw [List.nil_append, lk_cons]; rfl
  | cons p r ih =>
    rw [List.cons_append, lk_cons, lk_cons, ih]
    by_cases e : p.1 = k
    · rw [if_pos e, if_pos e]; rfl
    · rw [if_neg e, if_neg e]
theorem lk_map {r : List (κ × W)} {k j : κ} {v : W} : lk (r.map fun kv => if kv.1 = k then (kv.1, v) else kv) j = if j = k then (lk r k).map fun _ => v else lk r j := by
  induction r with
  | nil => simp [lk]
  | cons p r ih =>
    rw [List.map_cons, lk_cons, ih, lk_cons, lk_cons]
    by_cases e : p.1 = k
    · by_cases q : j = k
      · simp [e, q]
      · simp [e, q, Ne.symm q]
    · by_cases q : j = k
      · subst q; simp [e]
      · simp [e, q]
theorem lk_pk (r : List (κ × W)) (k j : κ) (v : W) : lk (pk r k v) j = if j = k then some v else lk r j := by
  unfold pk
  by_cases h : (lk r k).isSome = true
  · rw [if_pos h, lk_map]
    by_cases q : j = k
    · rw [if_pos q, if_pos q]
      obtain ⟨x, hx⟩ := Option.isSome_iff_exists.mp h
      rw [hx]; rfl
    · rw [if_neg q, if_neg q]
  · rw [if_neg h, lk_app]
    have e : lk r k = none := by simpa using h
    by_cases q : j = k
    · subst q; rw [e]; simp
    · rw [if_neg (Ne.symm q), if_neg q]; simp
theorem pk_len (r : List (κ × W)) (k : κ) (v : W) : (pk r k v).length ≤ r.length + 1 := by
  unfold pk
  split
  · rw [List.length_map]; omega
  · rw [List.length_append]; simp
theorem pk_new {r : List (κ × W)} {k : κ} (v : W) (h : lk r k = none) : pk r k v = r ++ [(k, v)] := by
  unfold pk
  rw [h]
  exact if_neg (by simp)
end

/-- the kept entries -/
def RawE (es : List (NestedKey × Addr × V)) (xs : List (NestedKey × Addr × Value)) : Prop := Paired (fun (p : NestedKey × Addr × V) (q : NestedKey × Addr × Value) => p.1 = q.1 ∧ p.2.1 = q.2.1 ∧ RelV p.2.2 q.2.2) es xs
def stE (es : List (NestedKey × Addr × V)) (k : NestedKey) (b : Addr) (v : V) : List (NestedKey × Addr × V) :=
  if (es.any fun x => decide (x.1 = k)) = true then es.map (fun x => if x.1 = k then (x.1, x.2.1, v) else x) else es ++ [(k, b, v)]
theorem RawE.any {es : List (NestedKey × Addr × V)} {xs : List (NestedKey × Addr × Value)} (r : RawE es xs) (k : NestedKey) : (es.any fun x => decide (x.1 = k)) = (atKey xs k).isSome := by
  unfold RawE at r
  induction r with
  | nil => rfl
  | @cons p q ps qs h t ih =>
    rw [List.any_cons, ih]
    unfold atKey
    rw [List.find?_cons, h.1]
    by_cases e : q.1 = k
    · simp [e]
    · simp [e]
theorem RawE.store {es : List (NestedKey × Addr × V)} {xs : List (NestedKey × Addr × Value)} (r : RawE es xs) (k : NestedKey) (b : Addr) {v : V} {u : Value} (rv : RelV v u) : RawE (stE es k b v) (storedH xs k b u) := by
  unfold stE storedH
  rw [r.any k]
  split
  · have all : ∀ {ps : List (NestedKey × Addr × V)} {qs : List (NestedKey × Addr × Value)}, RawE ps qs → RawE (ps.map fun x => if x.1 = k then (x.1, x.2.1, v) else x) (qs.map (putAt k u)) := by
      intro ps qs r
      unfold RawE at r
      induction r with
      | nil => exact .nil
      | @cons p q ps qs h t ih =>
        rw [List.map_cons, List.map_cons]
        refine .cons ?_ ih
        unfold putAt
        by_cases e : p.1 = k
        · rw [if_pos e, if_pos (h.1.symm.trans e)]; exact ⟨h.1, h.2.1, rv⟩
        · rw [if_neg e, if_neg (fun z => e (h.1.trans z))]; exact h
    exact all r
  · unfold RawE at r ⊢
    have app : ∀ {l1 l1' : List (NestedKey × Addr × V)} {l2 l2' : List (NestedKey × Addr × Value)}, RawE l1 l2 → RawE l1' l2' → RawE (l1 ++ l1') (l2 ++ l2') := by
      intro l1 l1' l2 l2' h1 h2
      unfold RawE at h1
      induction h1 with
      | nil => exact h2
      | cons h t ih => exact .cons h ih
    exact app r (.cons ⟨rfl, rfl, rv⟩ .nil)
theorem NWV.any {H : Hp} {kws : List (W × W)} {es : List (NestedKey × Addr × V)} (r : NWV H kws es) {k : W} (hk : kbl k = true) : (es.any fun x => decide (x.1 = nk k)) = (lk kws k).isSome := by
  unfold NWV at r
  induction r with
  | nil => rfl
  | @cons p q ps qs h t ih =>
    rw [List.any_cons, ih, lk_cons, h.1]
    by_cases e : p.1 = k
    · subst e; simp
    · rw [if_neg e]
      have : nk p.1 ≠ nk k := fun z => e (nk_inj _ _ h.2.1 hk z)
      simp [this]
theorem NWV.store {H : Hp} {kws : List (W × W)} {es : List (NestedKey × Addr × V)} (r : NWV H kws es) {k : W} {b : Addr} {w : W} {v : V} (hk : kbl k = true) (hd : (nk k).depth ≤ 8) (rk : RV H k (.ref b)) (rw' : RV H w v) : NWV H (pk kws k w) (stE es (nk k) b v) := by
  have any := r.any hk
  unfold pk stE
  rw [any]
  split
  · clear any
    unfold NWV at r ⊢
    induction r with
    | nil => exact .nil
    | @cons p q ps qs h t ih =>
      rename_i hh
      rw [List.map_cons, List.map_cons]
      refine .cons ?_ ?_
      · by_cases e : p.1 = k
        · rw [if_pos e, if_pos (by rw [h.1, e])]; exact ⟨h.1, h.2.1, h.2.2.1, h.2.2.2.1, rw'⟩
        · rw [if_neg e, if_neg (fun z => e (nk_inj _ _ h.2.1 hk (h.1.symm.trans z)))]; exact h
      · have all : ∀ {ps : List (W × W)} {qs : List (NestedKey × Addr × V)}, NWV H ps qs → NWV H (ps.map fun kv => if kv.1 = k then (kv.1, w) else kv) (qs.map fun x => if x.1 = nk k then (x.1, x.2.1, v) else x) := by
          intro ps qs r
          unfold NWV at r
          induction r with
          | nil => exact .nil
          | @cons p q ps qs h t ih =>
            rw [List.map_cons, List.map_cons]
            refine .cons ?_ ih
            by_cases e : p.1 = k
            · rw [if_pos e, if_pos (by rw [h.1, e])]; exact ⟨h.1, h.2.1, h.2.2.1, h.2.2.2.1, rw'⟩
            · rw [if_neg e, if_neg (fun z => e (nk_inj _ _ h.2.1 hk (h.1.symm.trans z)))]; exact h
        exact all t
  · have app : ∀ {l1 l1' : List (W × W)} {l2 l2' : List (NestedKey × Addr × V)}, NWV H l1 l2 → NWV H l1' l2' → NWV H (l1 ++ l1') (l2 ++ l2') := by
      intro l1 l1' l2 l2' h1 h2
      unfold NWV at h1
      induction h1 with
      | nil => exact h2
      | cons h t ih => exact .cons h ih
    exact app r (.cons ⟨rfl, hk, hd, rk, rw'⟩ .nil)
/-- what is found -/
theorem found_of {H : Hp} {kws : List (W × W)} {es : List (NestedKey × Addr × V)} {xs : List (NestedKey × Addr × Value)} (r : NWV H kws es) (q : RawE es xs) {k : W} (hk : kbl k = true) :
    match lk kws k with
    | some w => ∃ b v u, atKey xs (nk k) = some (b, u) ∧ RV H w v ∧ RelV v u
    | none => atKey xs (nk k) = none := by
  unfold NWV at r
  induction r generalizing xs with
  | nil =>
    unfold RawE at q
    cases q
    rfl
  | @cons p e ps es' h t ih =>
    unfold RawE at q
    cases q with
    | @cons _ x _ xs' hq tq =>
      have ih := ih tq
      rw [lk_cons]
      unfold atKey
      rw [List.find?_cons, ← hq.1, h.1]
      by_cases z : p.1 = k
      · subst z
        rw [if_pos rfl, decide_eq_true rfl]
        exact ⟨x.2.1, e.2.2, x.2.2, rfl, h.2.2.2.2, hq.2.2⟩
      · rw [if_neg z, decide_eq_false (fun y => z (nk_inj _ _ h.2.1 hk y))]
        exact ih
mutual
/-- a tracked tuple is a key -/
theorem nested_of {X : Cx} {pins : List (Addr × Obj)} {σ : St} {H : Hp} {s : Shared} (I : Inv X pins σ H s) : ∀ (w : W) (v : V) (u : Value), kbl w = true → RV H w v → RelV v u → NestedIs s.heap (nk w) u
  | .non, _, _, _, h, r => by cases (show _ = V.non from h); cases r; exact .none
  | .bl _, _, _, hk, _, _ => by simp [kbl] at hk
  | .int i, _, _, _, h, r => by cases (show _ = V.int i from h); obtain ⟨t, rfl⟩ := r; exact .int i t
  | .str x, _, _, _, h, r => by cases (show _ = V.str x from h); obtain ⟨t, rfl⟩ := r; exact .text x t
  | .ref _, _, _, hk, _, _ => by simp [kbl] at hk
  | .ty _, _, _, hk, _, _ => by simp [kbl] at hk
  | .tup ws, _, _, hk, ⟨a, vs, e, ha, rr⟩, r => by
    subst e
    cases r
    obtain ⟨its, rv, ⟨o, ho, hc, n, hd⟩, _⟩ := I.tuple (SqT.of ha)
    exact .tup ho hc hd (nesteds_of I ws vs its (by simpa [kbl] using hk) rr rv)
theorem nesteds_of {X : Cx} {pins : List (Addr × Obj)} {σ : St} {H : Hp} {s : Shared} (I : Inv X pins σ H s) : ∀ (ws : List W) (vs : List V) (us : List Value), kbls ws = true → RVs H ws vs → Vals vs us → NestedAll s.heap (nks ws) us
  | [], _, _, _, h, r => by cases (show _ = ([] : List V) from h); cases r; exact .nil
  | w :: ws, _, _, hk, ⟨v, vs, e, h1, h2⟩, r => by
    subst e
    simp only [kbls, Bool.and_eq_true] at hk
    cases r with
    | cons r1 r2 => exact .cons (nested_of I w v _ hk.1 h1 r1) (nesteds_of I ws vs _ hk.2 h2 r2)
end
def keyOk (w : W) : Bool := match w with
  | .tup ws => kbls ws && Nat.ble (NestedKey.depthAll (nks ws)) 7
  | _ => false
theorem keyOk_k {w : W} (h : keyOk w = true) : kbl w = true ∧ (nk w).depth ≤ 8 := by
  cases w with
  | tup ws =>
    simp only [keyOk, Bool.and_eq_true] at h
    refine ⟨by rw [kbl]; exact h.1, ?_⟩
    rw [nk, NestedKey.depth]
    have := Nat.le_of_ble_eq_true h.2
    omega
  | _ => simp [keyOk] at h
section
variable {X : Cx} {pins : List (Addr × Obj)} {σ : St} {H : Hp} {s : Shared} {G : AH} {d : Addr} {kws : List (W × W)}
theorem dictN_at (I : Inv X pins σ H s) (g : RG (cc X) H G) (h : G d = some (.dN kws)) : ∃ es xs, H d = some (.ext (rawN X.prog X.w d es)) ∧ NWV H kws es ∧ RawE es xs ∧ es.length ≤ sizeLine ∧ (d == sysModules) = false ∧ s.heap.DictOfH (nestedKind X.prog X.w) d xs := by
  obtain ⟨es, hd, r⟩ := g d _ h
  obtain ⟨⟨z, ns, xs, q, o, es', ep, h1, h2, h3, h4, h5⟩, _⟩ := I.hok d _ hd
  refine ⟨es, xs, hd, r, q, z, ns, o, es', ep, h1, h2, h3, h4, fun x hx => ?_, h5⟩
  have go : ∀ {kws : List (W × W)} {es : List (NestedKey × Addr × V)} {xs : List (NestedKey × Addr × Value)}, NWV H kws es → RawE es xs → ∀ x ∈ xs, (nestedKind X.prog X.w).is s.heap x.1 x.2.1 := by
    intro kws es xs r q
    unfold NWV at r
    induction r generalizing xs with
    | nil => intro x hx; unfold RawE at q; cases q; cases hx
    | cons h t ih =>
      intro x hx
      unfold RawE at q
      cases q with
      | cons hq tq =>
        rcases List.mem_cons.mp hx with e | hx
        · subst e
          rw [← hq.1, ← hq.2.1, h.1]
          exact ⟨nested_of I _ _ _ h.2.1 h.2.2.2.1 rfl, h.2.2.1⟩
        · exact ih tq x hx
  exact go r q x hx
theorem RawE.len {es : List (NestedKey × Addr × V)} {xs : List (NestedKey × Addr × Value)} (q : RawE es xs) : es.length = xs.length := Paired.length q
theorem NWV.len {es : List (NestedKey × Addr × V)} (q : NWV H kws es) : kws.length = es.length := Paired.length q
/-- behind a store -/
theorem dictN_put (I : Inv X pins σ H s) (g : RG (cc X) H G) (h : G d = some (.dN kws)) {k w : W} {b : Addr} {v : V} {u : Value} (hk : keyOk k = true) (rk : RV H k (.ref b)) (rw' : RV H w v) (ru : RelV v u) (hl : kws.length < sizeLine) {Q : Unit → Shared → Prop} (hu : X.A.units + 9 < cLine)
    (q : ∀ s' H', Inv X pins σ H' s' → Keep H H' → RG (cc X) H' (aup G d (.dN (pk kws k w))) → Q () s') : wpAny (model X.prog X.w) X.A (setItem (.ref d) (.ref b) u) Q X.xe s := by
  obtain ⟨es, xs, hd, r, e, hz, ns, dd⟩ := dictN_at I g h
  obtain ⟨hk1, hk2⟩ := keyOk_k hk
  refine wpAny_setItem_heap (knd := nestedKind X.prog X.w) (k := nk k) (show X.A.in1.units + 8 < cLine by show X.A.units + 1 + 8 < cLine; omega) ⟨nested_of I k _ _ hk1 rk rfl, hk2⟩ dd (fun h' dd' hs => ?_) (by rw [← e.len, ← r.len]; omega)
  have kk : Keep H (upd H d (.ext (rawN X.prog X.w d (stE es (nk k) b v)))) := Keep.mut hd trivial
  obtain ⟨o, es', ep, h1, h2, h3, h4, h5, h6⟩ := dd'
  have r2 : NWV H (pk kws k w) (stE es (nk k) b v) := r.store hk1 hk2 rk rw'
  have raw : rawN X.prog X.w d (stE es (nk k) b v) h' := ⟨by rw [← r2.len]; have := pk_len kws k w; omega, ns, _, e.store (nk k) b ru, o, es', ep, h1, h2, h3, h4, h6⟩
  refine q _ (upd H d (.ext (rawN X.prog X.w d (stE es (nk k) b v)))) (d_write I (by rw [hd]; exact True.intro) hs ⟨o, h1⟩ ⟨raw, ⟨o, h1⟩, fun g1 g2 p1 p2 => ?_⟩) kk (g.put kk (show RO _ _ d (.dN _) from ⟨_, upd_same, Paired.mapP r2 fun _ _ z => ⟨z.1, z.2.1, z.2.2.1, z.2.2.2.1.mono kk, z.2.2.2.2.mono kk⟩⟩))
  obtain ⟨z1, z2, ys, z3, o2, e2, ep2, z4, z5⟩ := p1
  exact ⟨z1, z2, ys, z3, o2, e2, ep2, p2 _ z4, z5⟩
end
section
variable {X : Cx} {a b o i e : Expr} {pos : Pos} {ρ : AS} {G : AH} {K : W → AH → Prop} {KB : Bool → AH → Prop}
/-- {} to hold tuples as keys -/
theorem q_dnewN (k : ∀ p, G p = none → K (.ref p) (aup G p (.dN []))) : EQ X (.Dict [] [] pos) ρ G K := ⟨fun pins s σ H I rs rg => by
  have hn : H s.heap.objs.size = none := I.hok.fresh (Nat.le_refl _)
  have raw : rawN X.prog X.w s.heap.objs.size [] (s.heap.push { cls := .type "dict", data := .dict #[] }) := ⟨Nat.zero_le _, beq_eq_false_iff_ne.mpr (Ne.symm (Nat.ne_of_lt I.big)), [], .nil, _, #[], 0, Heap.get?_push_size _ rfl, ⟨rfl, rfl, rfl⟩, rfl, rfl, List.nodup_nil⟩
  refine wpAny_Dict_empty ⟨.ref s.heap.objs.size, _, I.laid (a := s.heap.objs.size) (o := .ext (rawN X.prog X.w s.heap.objs.size [])) (t' := s.toks) (fun _ _ q => Heap.get?_push_of_some _ q) (Nat.le_refl _) ⟨raw, ⟨_, Heap.get?_push_size _ rfl⟩, fun g1 g2 p1 p2 => ?_⟩, rfl, .ref s.heap.objs.size, _, Keep.new hn, rfl, rg.new hn (show RO _ _ _ (.dN []) from ⟨[], upd_same, .nil⟩), k _ (rg.free hn)⟩
  obtain ⟨z1, z2, ys, z3, o2, e2, ep2, z4, z5⟩ := p1
  exact ⟨z1, z2, ys, z3, o2, e2, ep2, p2 _ z4, z5⟩⟩
theorem ref_of {H : Hp} {w : W} {v : V} (h : keyOk w = true) (r : RV H w v) : ∃ b, v = .ref b := by
  cases w with
  | tup ws => obtain ⟨a, _, e, _⟩ := r; exact ⟨a, e⟩
  | _ => simp [keyOk] at h
def fDin (neg : Bool) : WR := fun x y G K => match y with
  | .ref d => ∃ kws, G d = some (.dN kws) ∧ keyOk x = true ∧ K (.bl (if neg then !(lk kws x).isSome else (lk kws x).isSome)) G
  | _ => False
theorem in_some {H : Hp} {kws : List (W × W)} {es : List (NestedKey × Addr × V)} {xs : List (NestedKey × Addr × Value)} (r : NWV H kws es) (q : RawE es xs) {k : W} (hk : kbl k = true) : (atKey xs (nk k)).isSome = (lk kws k).isSome := by
  rw [← q.any, r.any hk]
theorem rr_din (hu : X.A.units + 9 < cLine) : OpR X (compareOp .In) (fun u v H Q => ∃ x y G K, RV H x u ∧ RV H y v ∧ RG (cc X) H G ∧ fDin false x y G K ∧ ∀ z H', CW (cc X) H K z H' → Q z H') := by
  rintro pins s σ H u v uu vv Q I ru rv ⟨x, y, G, K, rx, ry, g, h, q⟩
  cases y with
  | ref d =>
    obtain ⟨kws, hd, hk, k⟩ := h
    cases (show v = .ref d from ry)
    cases (show vv = Value.ref d from rv)
    obtain ⟨bk, e⟩ := ref_of hk rx
    subst e
    cases (show uu = Value.ref bk from ru)
    obtain ⟨es, xs, hd', r, e, hz, ns, dd⟩ := dictN_at I g hd
    obtain ⟨hk1, hk2⟩ := keyOk_k hk
    refine wpAny_in_heap (knd := nestedKind X.prog X.w) (k := nk x) (show X.A.in1.units + 8 < cLine by show X.A.units + 1 + 8 < cLine; omega) ⟨nested_of I x _ _ hk1 rx rfl, hk2⟩ ns dd ?_
    rw [in_some r e hk1]
    exact ⟨.bl _, H, I.tok _, rfl, q _ _ (.stay (w := .bl _) rfl g k)⟩
  | _ => exact h.elim
theorem rr_dnin (hu : X.A.units + 9 < cLine) : OpR X (compareOp .NotIn) (fun u v H Q => ∃ x y G K, RV H x u ∧ RV H y v ∧ RG (cc X) H G ∧ fDin true x y G K ∧ ∀ z H', CW (cc X) H K z H' → Q z H') := by
  rintro pins s σ H u v uu vv Q I ru rv ⟨x, y, G, K, rx, ry, g, h, q⟩
  cases y with
  | ref d =>
    obtain ⟨kws, hd, hk, k⟩ := h
    cases (show v = .ref d from ry)
    cases (show vv = Value.ref d from rv)
    obtain ⟨bk, e⟩ := ref_of hk rx
    subst e
    cases (show uu = Value.ref bk from ru)
    obtain ⟨es, xs, hd', r, e, hz, ns, dd⟩ := dictN_at I g hd
    obtain ⟨hk1, hk2⟩ := keyOk_k hk
    refine notIn_keyed (knd := nestedKind X.prog X.w) (k := nk x) (kvs := pairsH xs) (show X.A.in1.units + 8 < cLine by show X.A.units + 1 + 8 < cLine; omega) ⟨nested_of I x _ _ hk1 rx rfl, hk2⟩ ns ⟨xs, dd, rfl⟩ ?_
    rw [valueAt_pairsH, Option.isSome_map, in_some r e hk1]
    exact ⟨.bl _, H, I.tok _, rfl, q _ _ (.stay (w := .bl _) rfl g k)⟩
  | _ => exact h.elim
theorem b_dinN (hu : X.A.units + 9 < cLine) (h : EQ X a ρ G fun x G1 => EQ X b ρ G1 fun y G2 => fDin false x y G2 (tst KB)) (hm : behindInMarks .In b = false := by rfl) : BQ X (.Compare a [.In] [b] pos) ρ G KB :=
  b_cmp (R := fDin false) (rr_din hu) (fun x y u v H G K Q rx ry g h q => ⟨x, y, G, K, rx, ry, g, h, q⟩) hm h
theorem b_dninN (hu : X.A.units + 9 < cLine) (h : EQ X a ρ G fun x G1 => EQ X b ρ G1 fun y G2 => fDin true x y G2 (tst KB)) (hm : behindInMarks .NotIn b = false := by rfl) : BQ X (.Compare a [.NotIn] [b] pos) ρ G KB :=
  b_cmp (R := fDin true) (rr_dnin hu) (fun x y u v H G K Q rx ry g h q => ⟨x, y, G, K, rx, ry, g, h, q⟩) hm h
/-- d[k] -/
def fDgetN : WR := fun x y G K => match x with
  | .ref d => ∃ kws w, G d = some (.dN kws) ∧ keyOk y = true ∧ lk kws y = some w ∧ K w G
  | _ => False
theorem q_dgetN (hu : X.A.units + 9 < cLine) (h : EQ X o ρ G fun x G1 => EQ X i ρ G1 fun y G2 => fDgetN x y G2 K) (hs : NoSl i := by exact fun _ _ => rfl) : EQ X (.Subscript o i pos) ρ G K := ⟨fun pins s σ H I rs rg => by
  refine subD_of PySem.F.slot_dict_getitem.lookup hs (thn (h.run pins s σ H I rs rg) fun u s1 ⟨v, H1, I1, r1, x, G1, k1, rx, rg1, q1⟩ => thn (q1.run pins s1 σ H1 I1 (rs.mono k1) rg1) fun iv s2 ⟨v2, H2, I2, r2, y, G2, k2, ry, rg2, q2⟩ => ?_)
  cases x with
  | ref d =>
    obtain ⟨kws, w, hd, hk, hw, k⟩ := q2
    cases (show v = .ref d from rx)
    cases (show u = Value.ref d from r1)
    obtain ⟨bk, e⟩ := ref_of hk ry
    subst e
    cases (show iv = Value.ref bk from r2)
    obtain ⟨es, xs, hd', r, e, hz, ns, dd⟩ := dictN_at I2 rg2 hd
    obtain ⟨hk1, hk2⟩ := keyOk_k hk
    refine ⟨dd.typeIs, ?_⟩
    have f := found_of r e hk1
    rw [hw] at f
    obtain ⟨b', v', u', f1, f2, f3⟩ := f
    exact wpAny_getItem_heap (knd := nestedKind X.prog X.w) (k := nk y) (show X.A.in1.units + 8 < cLine by show X.A.units + 1 + 8 < cLine; omega) ⟨nested_of I2 y _ _ hk1 ry rfl, hk2⟩ dd f1 ⟨v', H2, I2.tok _, f3, w, G2, k1.trans k2, f2, rg2, k⟩
  | _ => exact q2.elim⟩
/-- d[k] = v, as a target -/
def fDputN : W → W → W → AH → (AH → Prop) → Prop := fun x y w G K => match x with
  | .ref d => ∃ kws, G d = some (.dN kws) ∧ keyOk y = true ∧ kws.length < sizeLine ∧ K (aup G d (.dN (pk kws y w)))
  | _ => False
theorem g_dputN {w : W} {KS : AS → AH → Prop} (hu : X.A.units + 9 < cLine) (h : EQ X o ρ G fun x G1 => EQ X i ρ G1 fun y G2 => fDputN x y w G2 (KS ρ))
    (ha : ∀ v, assign (.Subscript o i pos) X.env v = (do
      let ov ← holding [v] (eval o X.env)
      let iv ← holding [v, ov] (eval i X.env)
      standAt pos
      holding [v, ov, iv] (setItem ov iv v)
      release [v, ov, iv] []) := by intro _; rfl) : GQ X (.Subscript o i pos) w ρ G KS :=
  g_sub (t := fun u j v H Q => ∃ x y G K, RV H x u ∧ RV H y j ∧ RV H w v ∧ RG (cc X) H G ∧ fDputN x y w G K ∧ ∀ H' G', Keep H H' → RG (cc X) H' G' → K G' → Q H')
    (R := fun x y w' G K => w' = w ∧ fDputN x y w G K) (by
      rintro pins s σ H u j v uv jv vv Q I ru rj rv ⟨x, y, G, K, rx, ry, rw', g, hh, q⟩
      cases x with
      | ref d =>
        obtain ⟨kws, hd, hk, hl, k⟩ := hh
        cases (show u = .ref d from rx)
        cases (show uv = Value.ref d from ru)
        obtain ⟨bk, e⟩ := ref_of hk ry
        subst e
        cases (show jv = Value.ref bk from rj)
        exact dictN_put I g hd hk ry rw' rv hl hu fun s' H' I' kk gg => ⟨H', I', q _ _ kk gg k⟩
      | _ => exact hh.elim)
    (fun o i w' u j v H G K Q ro ri rw' g ⟨e, h⟩ q => by subst e; exact ⟨o, i, G, K, ro, ri, rw', g, h, q⟩) (h.mono fun x G1 h => h.mono fun y G2 h => ⟨rfl, h⟩) ha
end
end AL
namespace AL
open PySem PySem.Spec L2
open PyProof.Rows hiding St

/-! ### promises of defs -/
abbrev XKA := Value → Option Addr → AH → Prop
abbrev ASp := List W → AH → (W → AH → Prop) → XKA → Prop
def CX' (c : Ct) (H : Hp) (KE : XKA) : XK := fun u o H' => ∃ G', Keep H H' ∧ RG c H' G' ∧ KE u o G'
def low (c : Ct) (sp : ASp) : Sp := fun vs H Q E => ∃ ws G K KE, RVs H ws vs ∧ RG c H G ∧ sp ws G K KE ∧ (∀ v H', CW c H K v H' → Q v H') ∧ ∀ u o H', CX' c H KE u o H' → E u o H'
abbrev noE : XKA := fun _ _ _ => False
theorem fnA_of {P : Program} {w : World} {K : PySem.W.Frag} {mg : Str → Option Value} {base : Heap} {x qual : Str} {st : Stmt} {f : Addr} {fd : FuncData} {N ps : List Str} {k : Nat} {sp : ASp} (F : Fun K x qual st f fd) (S : FnScope N ps (defScope st))
    (len : ∀ ws G Kc KE, sp ws G Kc KE → ws.length = ps.length)
    (body : ∀ (cdv : Value) (A : Around) (outer : List Env) (s : Shared) (H : Hp) (E : XK) (ws : List W) (G : AH) (Kc : W → AH → Prop) (KE : XKA), Room k (A.deeper (envOfC qual (defScope st) s.heap.objs.size f cdv)) → sp ws G Kc KE →
      SQ (cxOf CX0 P w K mg base N qual (defScope st) f cdv A outer s H E).nox (defBody st) (startW N ws) G { nx := fun _ G' => ∃ G'', Sub G'' G' ∧ Kc .non G'', rt := fun v G' => ∃ G'', Sub G'' G' ∧ Kc v G'' }) :
    FnOk P w K mg base CX0 (k + 1) f fd ps (low ⟨P, w, K⟩ sp) := by
  refine F.ok S (fun vs H Q E ⟨ws, G, Kc, KE, r, g, h, _, _⟩ => by rw [← r.length]; exact len ws G Kc KE h) fun cdv A outer s H vs Q E hr ⟨ws, G, Kc, KE, r, g, h, q, _⟩ => ?_
  refine ⟨_, pss_S, startW N ws, G, _, body cdv A outer s H E ws G Kc KE hr h, RS.start r, g, ?_⟩
  exact ⟨fun σ' H' ⟨ρ', G', k1, _, g1, G'', s1, q1⟩ => q _ _ ⟨.non, G'', k1, rfl, g1.sub s1, q1⟩, fun v H' ⟨w, G', k1, r1, g1, G'', s1, q1⟩ => q v H' ⟨w, G'', k1, r1, g1.sub s1, q1⟩, fun _ _ ⟨_, _, _, _, _, z⟩ => z, fun _ _ ⟨_, _, _, _, _, z⟩ => z⟩
section
variable {X : Cx} {a b o i e : Expr} {es : List Expr} {p pos apos : Pos} {ρ : AS} {G : AH} {K : W → AH → Prop} {KB : Bool → AH → Prop} {k : Nat} {f : Addr} {fd : FuncData} {ps : List Str} {sp : ASp} {x : Str}
theorem q_call (F : FnOk X.prog X.w X.K X.mg X.base CX0 k f fd ps (low (cc X) sp)) (hr : Room k X.A) (hm : X.mg x = some (.ref f)) (hk : PySem.W.keepIn X.K (.ref f) = true) (hb : Binds X.K fd ps [])
    (h : AQ X (e :: es) ρ G fun ws G1 => sp ws G1 K noE) (hg : Gl X x := by rfl) (hdb : (x == ("__debug__" : Str)) = false := by decide) (he : starEach (e :: es) X.env = (false, eval e X.env) :: starEach es X.env := by rfl) (hpl : (backTo pos (starEach es X.env)).any (·.1) = false := by rfl) :
    EQ X (.Call (.Name x p) (e :: es) [] pos) ρ G K :=
  EQ.of (pe_call F hr hg hm hk hb .nil pass0 pa_A hdb he hpl) fun σ H rs rg => ⟨ρ, G, _, h, rs, rg, fun vs H1 ⟨ws, G1, k1, r1, rg1, _, q⟩ => by
    show low (cc X) sp (vs ++ []) H1 (CW (cc X) H K) E0
    rw [List.append_nil]
    exact ⟨ws, G1, K, noE, r1, rg1, q, fun v H' z => z.pre k1, fun _ _ _ ⟨_, _, _, z⟩ => z.elim⟩⟩
/-- .. with its last parameters left out -/
theorem q_callD {dvs : List V} {ds : List Value} {dws : List W} (F : FnOk X.prog X.w X.K X.mg X.base CX0 k f fd ps (low (cc X) sp)) (hr : Room k X.A) (hm : X.mg x = some (.ref f)) (hk : PySem.W.keepIn X.K (.ref f) = true) (hb : Binds X.K fd ps ds) (hd : Vals dvs ds) (hw : ∀ H, RVs H dws dvs)
    (h : AQ X (e :: es) ρ G fun ws G1 => sp (ws ++ dws) G1 K noE) (hg : Gl X x := by rfl) (hdb : (x == ("__debug__" : Str)) = false := by decide) (he : starEach (e :: es) X.env = (false, eval e X.env) :: starEach es X.env := by rfl) (hpl : (backTo pos (starEach es X.env)).any (·.1) = false := by rfl) :
    EQ X (.Call (.Name x p) (e :: es) [] pos) ρ G K :=
  EQ.of (pe_call F hr hg hm hk hb hd pass0 pa_A hdb he hpl) fun σ H rs rg => ⟨ρ, G, _, h, rs, rg, fun vs H1 ⟨ws, G1, k1, r1, rg1, _, q⟩ =>
    ⟨ws ++ dws, G1, K, noE, r1.append (hw H1), rg1, q, fun v H' z => z.pre k1, fun _ _ _ ⟨_, _, _, z⟩ => z.elim⟩⟩

/-- a def of the text, kept, that keeps its promise -/
structure Cal (P : Program) (w : World) (K : PySem.W.Frag) (mg : Str → Option Value) (base : Heap) (x : Str) (k : Nat) (ps : List Str) (sp : ASp) : Prop where
  ex : ∃ f fd, FnOk P w K mg base CX0 k f fd ps (low ⟨P, w, K⟩ sp) ∧ mg x = some (.ref f) ∧ PySem.W.keepIn K (.ref f) = true ∧ Binds K fd ps []
theorem q_cal {ps : List Str} (C : Cal X.prog X.w X.K X.mg X.base x k ps sp) (hr : Room k X.A) (h : AQ X (e :: es) ρ G fun ws G1 => sp ws G1 K noE) (hg : Gl X x := by rfl) (hdb : (x == ("__debug__" : Str)) = false := by decide) (he : starEach (e :: es) X.env = (false, eval e X.env) :: starEach es X.env := by rfl) (hpl : (backTo pos (starEach es X.env)).any (·.1) = false := by rfl) :
    EQ X (.Call (.Name x p) (e :: es) [] pos) ρ G K := by
  obtain ⟨f, fd, F, hm, hk, hb⟩ := C.ex
  exact q_call F hr hm hk hb h hg hdb he hpl

/-! ### built-ins -/
abbrev CRW := List W → AH → (W → AH → Prop) → Prop
def CR' (c : Ct) (r : List V → Hp → VK → Prop) (R : CRW) : Prop := ∀ ws vs H G K (Q : VK), RVs H ws vs → RG c H G → R ws G K → (∀ z H', CW c H K z H' → Q z H') → r vs H Q
theorem q_callB {id : String} {r : List V → Hp → VK → Prop} {R : CRW} (hc : CallR X (.builtin id) r) (rr : CR' (cc X) r R) (hm : X.mg x = none) (hv : bootBuiltins x = some (.builtin id)) (h : AQ X (e :: es) ρ G fun ws G1 => R ws G1 K)
    (hg : Gl X x := by rfl) (hn : x ≠ "__name__" := by decide) (hdb : (x == ("__debug__" : Str)) = false := by decide)
    (he : starEach (e :: es) X.env = (false, eval e X.env) :: starEach es X.env := by rfl) (hpl : (backTo pos (starEach es X.env)).any (·.1) = false := by rfl) : EQ X (.Call (.Name x p) (e :: es) [] pos) ρ G K :=
  EQ.of (pe_callB hc hg hm hv pa_A hn hdb he hpl) fun σ H rs rg => ⟨ρ, G, _, h, rs, rg, fun vs H1 ⟨ws, G1, k1, r1, rg1, _, q⟩ => rr ws vs H1 G1 K _ r1 rg1 q fun v H' z => z.pre k1⟩
theorem q_callT {T : String} {r : List V → Hp → VK → Prop} {R : CRW} (hc : CallR X (.type T) r) (rr : CR' (cc X) r R) (hm : X.mg x = none) (hv : bootBuiltins x = some (.type T)) (h : AQ X (e :: es) ρ G fun ws G1 => R ws G1 K)
    (hg : Gl X x := by rfl) (hn : x ≠ "__name__" := by decide) (hdb : (x == ("__debug__" : Str)) = false := by decide)
    (he : starEach (e :: es) X.env = (false, eval e X.env) :: starEach es X.env := by rfl) (hpl : (backTo pos (starEach es X.env)).any (·.1) = false := by rfl) : EQ X (.Call (.Name x p) (e :: es) [] pos) ρ G K :=
  EQ.of (pe_callTy hc hg hm hv pa_A hn hdb he hpl) fun σ H rs rg => ⟨ρ, G, _, h, rs, rg, fun vs H1 ⟨ws, G1, k1, r1, rg1, _, q⟩ => rr ws vs H1 G1 K _ r1 rg1 q fun v H' z => z.pre k1⟩
/-- len of a list, a tuple, a text -/
def fLen : CRW := fun ws G K => match ws with
  | [.tup xs] => K (.int xs.length) G
  | [.str z] => z.length ≤ sizeLine ∧ K (.int z.length) G
  | [.lst xs] => K (.int xs.length) G
  | [.ref a] => ∃ xs, G a = some (.lst xs) ∧ K (.int xs.length) G
  | _ => False
theorem rv1 {H : Hp} {w : W} {vs : List V} (r : RVs H [w] vs) : ∃ v, vs = [v] ∧ RV H w v := by
  obtain ⟨v, t, e, h, q⟩ := r
  cases (show t = [] from q)
  exact ⟨v, e, h⟩
theorem rv2 {H : Hp} {w w' : W} {vs : List V} (r : RVs H [w, w'] vs) : ∃ v v', vs = [v, v'] ∧ RV H w v ∧ RV H w' v' := by
  obtain ⟨v, t, e, h, q⟩ := r
  obtain ⟨v', e', h'⟩ := rv1 q
  subst e'
  exact ⟨v, v', e, h, h'⟩
theorem cr_len {c : Ct} : CR' c (fun xs H Q => ∃ x n, xs = [x] ∧ LenV c.K x H n ∧ Q (.int n) H) fLen := by
  intro ws vs H G K Q r g h q
  match ws, h with
  | [.tup xs], h =>
    obtain ⟨v, rfl, a, us, rfl, ha, rr⟩ := rv1 r
    exact ⟨_, us.length, rfl, .inr ⟨us, SqT.of ha, rfl⟩, q _ _ (.stay (w := .int xs.length) (by rw [rr.length]; rfl) g h)⟩
  | [.str z], h =>
    obtain ⟨v, rfl, hv⟩ := rv1 r
    cases (show v = .str z from hv)
    exact ⟨_, z.length, rfl, ⟨h.1, rfl⟩, q _ _ (.stay (w := .int z.length) rfl g h.2)⟩
  | [.lst xs], h =>
    obtain ⟨v, rfl, hv⟩ := rv1 r
    obtain ⟨a, us, e, hu, rr⟩ := RV.sqL (K := c.K) hv
    subst e
    exact ⟨_, us.length, rfl, .inl ⟨us, hu, rfl⟩, q _ _ (.stay (w := .int xs.length) (by rw [rr.length]; rfl) g h)⟩
  | [.ref a], ⟨xs, ha, k⟩ =>
    obtain ⟨v, rfl, hv⟩ := rv1 r
    cases (show v = .ref a from hv)
    obtain ⟨us, hu, rr⟩ := g.lst ha
    exact ⟨_, us.length, rfl, .inl ⟨us, SqL.of hu, rfl⟩, q _ _ (.stay (w := .int xs.length) (by rw [rr.length]; rfl) g k)⟩
theorem q_len (hm : X.mg "len" = none) (h : AQ X (e :: es) ρ G fun ws G1 => fLen ws G1 K) (hg : Gl X "len" := by rfl)
    (he : starEach (e :: es) X.env = (false, eval e X.env) :: starEach es X.env := by rfl) (hpl : (backTo pos (starEach es X.env)).any (·.1) = false := by rfl) : EQ X (.Call (.Name "len" p) (e :: es) [] pos) ρ G K :=
  q_callB call_len cr_len hm PySem.boot_len h hg (by decide) (by decide) he hpl
def f1I (g : Int → W) : CRW := fun ws G K => match ws with
  | [.int i] => K (g i) G
  | _ => False
def f2I (g : Int → Int → Int) : CRW := fun ws G K => match ws with
  | [.int i, .int j] => K (.int (g i j)) G
  | _ => False
theorem cr_2I {c : Ct} {g : Int → Int → Int} : CR' c (fun xs H Q => ∃ i j, xs = [.int i, .int j] ∧ Q (.int (g i j)) H) (f2I g) := by
  intro ws vs H G K Q r gg h q
  match ws, h with
  | [.int i, .int j], h =>
    obtain ⟨v, v', rfl, h1, h2⟩ := rv2 r
    cases (show v = .int i from h1)
    cases (show v' = .int j from h2)
    exact ⟨i, j, rfl, q _ _ (.stay (w := .int (g i j)) rfl gg h)⟩
theorem q_min2 (hm : X.mg "min" = none) (h : AQ X (e :: es) ρ G fun ws G1 => f2I (fun i j => if j < i then j else i) ws G1 K) (hc : X.calm = true := by rfl) (hg : Gl X "min" := by rfl)
    (he : starEach (e :: es) X.env = (false, eval e X.env) :: starEach es X.env := by rfl) (hpl : (backTo pos (starEach es X.env)).any (·.1) = false := by rfl) : EQ X (.Call (.Name "min" p) (e :: es) [] pos) ρ G K :=
  q_callB (call_min2 hc) cr_2I hm (by decide +kernel) h hg (by decide) (by decide) he hpl
theorem q_max2 (hm : X.mg "max" = none) (h : AQ X (e :: es) ρ G fun ws G1 => f2I (fun i j => if j > i then j else i) ws G1 K) (hc : X.calm = true := by rfl) (hg : Gl X "max" := by rfl)
    (he : starEach (e :: es) X.env = (false, eval e X.env) :: starEach es X.env := by rfl) (hpl : (backTo pos (starEach es X.env)).any (·.1) = false := by rfl) : EQ X (.Call (.Name "max" p) (e :: es) [] pos) ρ G K :=
  q_callB (call_max2 hc) cr_2I hm (by decide +kernel) h hg (by decide) (by decide) he hpl
def fAbs : CRW := fun ws G K => match ws with
  | [.int i] => K (.int (if i < 0 then -i else i)) G
  | _ => False
theorem cr_abs {c : Ct} : CR' c (fun xs H Q => ∃ i, xs = [.int i] ∧ Q (.int (if i < 0 then -i else i)) H) fAbs := by
  intro ws vs H G K Q r gg h q
  match ws, h with
  | [.int i], h =>
    obtain ⟨v, rfl, h1⟩ := rv1 r
    cases (show v = .int i from h1)
    exact ⟨i, rfl, q _ _ (.stay (w := .int _) rfl gg h)⟩
theorem q_abs (hm : X.mg "abs" = none) (h : AQ X (e :: es) ρ G fun ws G1 => fAbs ws G1 K) (hg : Gl X "abs" := by rfl)
    (he : starEach (e :: es) X.env = (false, eval e X.env) :: starEach es X.env := by rfl) (hpl : (backTo pos (starEach es X.env)).any (·.1) = false := by rfl) : EQ X (.Call (.Name "abs" p) (e :: es) [] pos) ρ G K :=
  q_callB call_abs cr_abs hm (by decide +kernel) h hg (by decide) (by decide) he hpl
/-- int of a number, of a truth value -/
def fInt : CRW := fun ws G K => match ws with
  | [.int i] => K (.int i) G
  | [.bl b] => K (.int (if b then 1 else 0)) G
  | _ => False
theorem cr_int {c : Ct} : CR' c (fun xs H Q => (∃ i, xs = [.int i] ∧ Q (.int i) H) ∨ ∃ k, xs = [.bl k] ∧ Q (.int (if k then 1 else 0)) H) fInt := by
  intro ws vs H G K Q r gg h q
  match ws, h with
  | [.int i], h =>
    obtain ⟨v, rfl, h1⟩ := rv1 r
    cases (show v = .int i from h1)
    exact .inl ⟨i, rfl, q _ _ (.stay (w := .int _) rfl gg h)⟩
  | [.bl i], h =>
    obtain ⟨v, rfl, h1⟩ := rv1 r
    cases (show v = .bl i from h1)
    exact .inr ⟨i, rfl, q _ _ (.stay (w := .int _) rfl gg h)⟩
theorem q_int1 (hm : X.mg "int" = none) (h : AQ X (e :: es) ρ G fun ws G1 => fInt ws G1 K) (hg : Gl X "int" := by rfl)
    (he : starEach (e :: es) X.env = (false, eval e X.env) :: starEach es X.env := by rfl) (hpl : (backTo pos (starEach es X.env)).any (·.1) = false := by rfl) : EQ X (.Call (.Name "int" p) (e :: es) [] pos) ρ G K :=
  q_callT call_int1 cr_int hm (by decide +kernel) h hg (by decide) (by decide) he hpl
/-- list(..) of a list, a tuple -/
def fList : CRW := fun ws G K => match ws with
  | [.lst xs] => ∀ p, G p = none → K (.ref p) (aup G p (.lst xs))
  | [.tup xs] => ∀ p, G p = none → K (.ref p) (aup G p (.lst xs))
  | [.ref a] => ∃ xs, G a = some (.lst xs) ∧ ∀ p, G p = none → K (.ref p) (aup G p (.lst xs))
  | _ => False
theorem cr_list {c : Ct} : CR' c (fun xs H Q => ∃ p ys, xs = [.ref p] ∧ (SqL c.K H p ys ∨ SqT c.K H p ys) ∧ ∀ l, H l = none → Q (.ref l) (upd H l (.lst ys))) fList := by
  intro ws vs H G K Q r g h q
  match ws, h with
  | [.tup xs], h =>
    obtain ⟨v, rfl, a, us, rfl, ha, rr⟩ := rv1 r
    exact ⟨a, us, rfl, .inr (SqT.of ha), fun p hp => q _ _ ⟨.ref p, _, Keep.new hp, rfl, g.newL hp rr, h p (g.free hp)⟩⟩
  | [.lst xs], h =>
    obtain ⟨v, rfl, hv⟩ := rv1 r
    obtain ⟨a, us, e, hu, rr⟩ := RV.sqL (K := c.K) hv
    subst e
    exact ⟨a, us, rfl, .inl hu, fun p hp => q _ _ ⟨.ref p, _, Keep.new hp, rfl, g.newL hp rr, h p (g.free hp)⟩⟩
  | [.ref a], ⟨xs, ha, k⟩ =>
    obtain ⟨v, rfl, hv⟩ := rv1 r
    cases (show v = .ref a from hv)
    obtain ⟨us, hu, rr⟩ := g.lst ha
    exact ⟨a, us, rfl, .inl (SqL.of hu), fun p hp => q _ _ ⟨.ref p, _, Keep.new hp, rfl, g.newL hp rr, k p (g.free hp)⟩⟩
theorem q_list (hm : X.mg "list" = none) (h : AQ X (e :: es) ρ G fun ws G1 => fList ws G1 K) (hg : Gl X "list" := by rfl)
    (he : starEach (e :: es) X.env = (false, eval e X.env) :: starEach es X.env := by rfl) (hpl : (backTo pos (starEach es X.env)).any (·.1) = false := by rfl) : EQ X (.Call (.Name "list" p) (e :: es) [] pos) ρ G K :=
  q_callT call_list_of cr_list hm (by decide +kernel) h hg (by decide) (by decide) he hpl
/-- tuple(..) of a list, a tuple -/
def fTuple : CRW := fun ws G K => match ws with
  | [.lst xs] => K (.tup xs) G
  | [.tup xs] => K (.tup xs) G
  | [.ref a] => ∃ xs, G a = some (.lst xs) ∧ K (.tup xs) G
  | _ => False
theorem cr_tuple {c : Ct} : CR' c (fun xs H Q => ∃ p ys, xs = [.ref p] ∧ ((SqL c.K H p ys ∧ ∀ l, H l = none → Q (.ref l) (upd H l (.tup ys))) ∨ (SqT c.K H p ys ∧ Q (.ref p) H))) fTuple := by
  intro ws vs H G K Q r g h q
  match ws, h with
  | [.tup xs], h =>
    obtain ⟨v, rfl, a, us, rfl, ha, rr⟩ := rv1 r
    exact ⟨a, us, rfl, .inr ⟨SqT.of ha, q _ _ (.stay (w := .tup xs) ⟨a, us, rfl, ha, rr⟩ g h)⟩⟩
  | [.lst xs], k =>
    obtain ⟨v, rfl, hv⟩ := rv1 r
    obtain ⟨a, us, e, hu, rr⟩ := RV.sqL (K := c.K) hv
    subst e
    exact ⟨a, us, rfl, .inl ⟨hu, fun p hp => q _ _ ⟨.tup xs, G, Keep.new hp, ⟨p, us, rfl, upd_same, rr.mono (Keep.new hp)⟩, g.tup hp, k⟩⟩⟩
  | [.ref a], ⟨xs, ha, k⟩ =>
    obtain ⟨v, rfl, hv⟩ := rv1 r
    cases (show v = .ref a from hv)
    obtain ⟨us, hu, rr⟩ := g.lst ha
    exact ⟨a, us, rfl, .inl ⟨SqL.of hu, fun p hp => q _ _ ⟨.tup xs, G, Keep.new hp, ⟨p, us, rfl, upd_same, rr.mono (Keep.new hp)⟩, g.tup hp, k⟩⟩⟩
theorem q_tuple (hm : X.mg "tuple" = none) (h : AQ X (e :: es) ρ G fun ws G1 => fTuple ws G1 K) (hg : Gl X "tuple" := by rfl)
    (he : starEach (e :: es) X.env = (false, eval e X.env) :: starEach es X.env := by rfl) (hpl : (backTo pos (starEach es X.env)).any (·.1) = false := by rfl) : EQ X (.Call (.Name "tuple" p) (e :: es) [] pos) ρ G K :=
  q_callT call_tuple_of cr_tuple hm (by decide +kernel) h hg (by decide) (by decide) he hpl
def fDivmod : CRW := fun ws G K => match ws with
  | [.int i, .int j] => CDivP i j ∧ K (.tup [.int (i / j), .int (i % j)]) G
  | _ => False
theorem cr_divmod {c : Ct} : CR' c (fun xs H Q => ∃ i j, xs = [.int i, .int j] ∧ CDivP i j ∧ ∀ p, H p = none → Q (.ref p) (upd H p (.tup [.int (i / j), .int (i % j)]))) fDivmod := by
  intro ws vs H G K Q r g h q
  match ws, h with
  | [.int i, .int j], h =>
    obtain ⟨v, v', rfl, h1, h2⟩ := rv2 r
    cases (show v = .int i from h1)
    cases (show v' = .int j from h2)
    exact ⟨i, j, rfl, h.1, fun p hp => q _ _ ⟨.tup _, G, Keep.new hp, ⟨p, _, rfl, upd_same, .cons (show RV _ (.int _) _ from rfl) (.cons (show RV _ (.int _) _ from rfl) RVs.nil)⟩, g.tup hp, h.2⟩⟩
theorem q_divmod (hm : X.mg "divmod" = none) (h : AQ X (e :: es) ρ G fun ws G1 => fDivmod ws G1 K) (hg : Gl X "divmod" := by rfl)
    (he : starEach (e :: es) X.env = (false, eval e X.env) :: starEach es X.env := by rfl) (hpl : (backTo pos (starEach es X.env)).any (·.1) = false := by rfl) : EQ X (.Call (.Name "divmod" p) (e :: es) [] pos) ρ G K :=
  q_callB call_divmodW cr_divmod hm (by decide +kernel) h hg (by decide) (by decide) he hpl
/-- any, all of a list of truth values; sum of whole numbers -/
def fAny : CRW := fun ws G K => match ws with
  | [w] => ∃ bs : List Bool, LsA G w (bs.map W.bl) ∧ K (.bl (bs.any id)) G
  | _ => False
def fAll : CRW := fun ws G K => match ws with
  | [w] => ∃ bs : List Bool, LsA G w (bs.map W.bl) ∧ K (.bl (bs.all id)) G
  | _ => False
def fSum : CRW := fun ws G K => match ws with
  | [w] => ∃ ns : List Int, LsA G w (ns.map W.int) ∧ K (.int ns.sum) G
  | _ => False
theorem cr_any' {c : Ct} : CR' c (rAny c.K) fAny := by
  intro ws vs H G K Q r g h q
  match ws, h with
  | [w], ⟨bs, ha, k⟩ =>
    obtain ⟨v, rfl, hv⟩ := rv1 r
    obtain ⟨a, us, e, hu, rr⟩ := ha.sq g hv
    subst e
    cases rr.bls_eq
    exact ⟨a, bs, rfl, hu, q _ _ (.stay (w := .bl _) rfl g k)⟩
theorem cr_all' {c : Ct} : CR' c (rAll c.K) fAll := by
  intro ws vs H G K Q r g h q
  match ws, h with
  | [w], ⟨bs, ha, k⟩ =>
    obtain ⟨v, rfl, hv⟩ := rv1 r
    obtain ⟨a, us, e, hu, rr⟩ := ha.sq g hv
    subst e
    cases rr.bls_eq
    exact ⟨a, bs, rfl, hu, q _ _ (.stay (w := .bl _) rfl g k)⟩
theorem cr_sum' {c : Ct} : CR' c (rSum c.K) fSum := by
  intro ws vs H G K Q r g h q
  match ws, h with
  | [w], ⟨bs, ha, k⟩ =>
    obtain ⟨v, rfl, hv⟩ := rv1 r
    obtain ⟨a, us, e, hu, rr⟩ := ha.sq g hv
    subst e
    cases rr.ints_eq
    exact ⟨a, bs, rfl, hu, q _ _ (.stay (w := .int _) rfl g k)⟩
theorem q_any (hm : X.mg "any" = none) (h : AQ X (e :: es) ρ G fun ws G1 => fAny ws G1 K) (hc : X.calm = true := by rfl) (hg : Gl X "any" := by rfl)
    (he : starEach (e :: es) X.env = (false, eval e X.env) :: starEach es X.env := by rfl) (hpl : (backTo pos (starEach es X.env)).any (·.1) = false := by rfl) : EQ X (.Call (.Name "any" p) (e :: es) [] pos) ρ G K :=
  q_callB (cr_any hc) cr_any' hm (by decide +kernel) h hg (by decide) (by decide) he hpl
theorem q_all (hm : X.mg "all" = none) (h : AQ X (e :: es) ρ G fun ws G1 => fAll ws G1 K) (hc : X.calm = true := by rfl) (hg : Gl X "all" := by rfl)
    (he : starEach (e :: es) X.env = (false, eval e X.env) :: starEach es X.env := by rfl) (hpl : (backTo pos (starEach es X.env)).any (·.1) = false := by rfl) : EQ X (.Call (.Name "all" p) (e :: es) [] pos) ρ G K :=
  q_callB (cr_all hc) cr_all' hm (by decide +kernel) h hg (by decide) (by decide) he hpl
theorem q_sum (hm : X.mg "sum" = none) (h : AQ X (e :: es) ρ G fun ws G1 => fSum ws G1 K) (hc : X.calm = true := by rfl) (hg : Gl X "sum" := by rfl)
    (he : starEach (e :: es) X.env = (false, eval e X.env) :: starEach es X.env := by rfl) (hpl : (backTo pos (starEach es X.env)).any (·.1) = false := by rfl) : EQ X (.Call (.Name "sum" p) (e :: es) [] pos) ρ G K :=
  q_callB (cr_sum hc) cr_sum' hm (by decide +kernel) h hg (by decide) (by decide) he hpl
end
end AL
namespace AL
open PySem PySem.Spec L2
open PyProof.Rows hiding St

/-! ### methods of lists -/
section
variable {X : Cx} {a b o i e : Expr} {es : List Expr} {p pos apos cpos : Pos} {ρ : AS} {G : AH} {K : W → AH → Prop} {KB : Bool → AH → Prop}
def MR (c : Ct) (r : V → List V → Hp → VK → Prop) (R : Addr → List W → AH → (W → AH → Prop) → Prop) : Prop := ∀ a ws vs H G K (Q : VK), RVs H ws vs → RG c H G → R a ws G K → (∀ z H', CW c H K z H' → Q z H') → r (.ref a) vs H Q
theorem q_lm {name : Str} {id : String} {r : V → List V → Hp → VK → Prop} {R : Addr → List W → AH → (W → AH → Prop) → Prop} (slot : Slot "list" name id) (hty : typeOf (.builtin id) = pure (.type "method_descriptor")) (hm : MtR X id r) (rr : MR (cc X) r R)
    (h : EQ X o ρ G fun x G1 => ∃ a xs, x = .ref a ∧ G1 a = some (.lst xs) ∧ AQ X (e :: es) ρ G1 fun ws G2 => R a ws G2 K)
    (hbase : attributeBase o name X.env (eval o X.env) = eval o X.env := by rfl)
    (hfew : ((backTo cpos (starEach (e :: es) X.env)).all (fun x => !x.1) && (backToKw cpos (keywordEach [] X.env)).all (fun x => x.1.isSome)
      && decide ((e :: es).length + ([] : List Keyword).length + (if ([] : List Keyword).isEmpty then 0 else 1) < 30)) = true := by rfl)
    (hline : (apos.endLine == cpos.line) = true := by rfl) (hs : starEach (e :: es) X.env = (false, eval e X.env) :: starEach es X.env := by rfl) (hplain : (backTo cpos (starEach es X.env)).any (·.1) = false := by rfl) :
    EQ X (.Call (.Attribute o name apos) (e :: es) [] cpos) ρ G K :=
  EQ.of (pe_bm PySem.F.plainAttrs_list slot hty hm pe_E pa_A hbase hfew hline hs hplain) fun σ H rs rg => ⟨ρ, G, _, h, rs, rg, fun u H1 ⟨x, G1, k1, rx, rg1, a, xs, ex, ha, q⟩ => by
    subst ex
    cases (show u = .ref a from rx)
    obtain ⟨vs, hv, _⟩ := rg1.lst ha
    exact ⟨.inl ⟨rfl, vs, SqL.of hv⟩, ρ, G1, _, q, rs.mono k1, rg1, fun vs H2 ⟨ws, G2, k2, r2, rg2, _, q2⟩ => rr a ws vs H2 G2 K _ r2 rg2 q2 fun z H' y => y.pre (k1.trans k2)⟩⟩
theorem q_lm0 {name : Str} {id : String} {r : V → List V → Hp → VK → Prop} {R : Addr → List W → AH → (W → AH → Prop) → Prop} (slot : Slot "list" name id) (hty : typeOf (.builtin id) = pure (.type "method_descriptor")) (hm : MtR X id r) (rr : MR (cc X) r R)
    (h : EQ X o ρ G fun x G1 => ∃ a xs, x = .ref a ∧ G1 a = some (.lst xs) ∧ R a [] G1 K)
    (hbase : attributeBase o name X.env (eval o X.env) = eval o X.env := by rfl) (hline : (apos.endLine == cpos.line) = true := by rfl) :
    EQ X (.Call (.Attribute o name apos) [] [] cpos) ρ G K :=
  EQ.of (pe_bm0 PySem.F.plainAttrs_list slot hty hm pe_E hbase hline) fun σ H rs rg => ⟨ρ, G, _, h, rs, rg, fun u H1 ⟨x, G1, k1, rx, rg1, a, xs, ex, ha, q⟩ => by
    subst ex
    cases (show u = .ref a from rx)
    obtain ⟨vs, hv, _⟩ := rg1.lst ha
    exact ⟨.inl ⟨rfl, vs, SqL.of hv⟩, rr a [] [] H1 G1 K _ RVs.nil rg1 q fun z H' y => y.pre k1⟩⟩
def mAppend (a : Addr) (ws : List W) (G : AH) (K : W → AH → Prop) : Prop := match ws with
  | [w] => ∃ xs, G a = some (.lst xs) ∧ xs.length < sizeLine ∧ K .non (aup G a (.lst (xs ++ [w])))
  | _ => False
theorem mr_append {c : Ct} : MR c rAppend mAppend := by
  intro a ws vs H G K Q r g h q
  match ws, h with
  | [w], ⟨xs, ha, hl, k⟩ =>
    obtain ⟨v, rfl, hv⟩ := rv1 r
    obtain ⟨us, hu, rr⟩ := g.lst ha
    obtain ⟨k3, g3⟩ := g.mutL hu (rr.append (.cons hv RVs.nil))
    exact ⟨a, us, v, rfl, rfl, hu, by rw [← rr.length]; exact hl, q _ _ ⟨.non, _, k3, rfl, g3, k⟩⟩
theorem q_append (h : EQ X o ρ G fun x G1 => ∃ a xs, x = .ref a ∧ G1 a = some (.lst xs) ∧ AQ X (e :: es) ρ G1 fun ws G2 => mAppend a ws G2 K)
    (hbase : attributeBase o "append" X.env (eval o X.env) = eval o X.env := by rfl)
    (hfew : ((backTo cpos (starEach (e :: es) X.env)).all (fun x => !x.1) && (backToKw cpos (keywordEach [] X.env)).all (fun x => x.1.isSome)
      && decide ((e :: es).length + ([] : List Keyword).length + (if ([] : List Keyword).isEmpty then 0 else 1) < 30)) = true := by rfl)
    (hline : (apos.endLine == cpos.line) = true := by rfl) (hs : starEach (e :: es) X.env = (false, eval e X.env) :: starEach es X.env := by rfl) (hplain : (backTo cpos (starEach es X.env)).any (·.1) = false := by rfl) :
    EQ X (.Call (.Attribute o "append" apos) (e :: es) [] cpos) ρ G K := q_lm PySem.F.slot_list_append PySem.F.type_list_append mt_append mr_append h hbase hfew hline hs hplain
def mInsert (a : Addr) (ws : List W) (G : AH) (K : W → AH → Prop) : Prop := match ws with
  | [.int i, w] => ∃ xs, G a = some (.lst xs) ∧ xs.length < sizeLine ∧ 0 ≤ i ∧ i < 2 ^ 63 ∧ K .non (aup G a (.lst (xs.take i.toNat ++ [w] ++ xs.drop i.toNat)))
  | _ => False
theorem mr_insert {c : Ct} : MR c (fun x vs H Q => ∃ (l : Addr) (xs : List V) (i : Int) (y : V), x = .ref l ∧ vs = [.int i, y] ∧ H l = some (.lst xs) ∧ xs.length < sizeLine ∧ 0 ≤ i ∧ i < 2 ^ 63 ∧
    Q .non (upd H l (.lst (xs.take i.toNat ++ [y] ++ xs.drop i.toNat)))) mInsert := by
  intro a ws vs H G K Q r g h q
  match ws, h with
  | [.int i, w], ⟨xs, ha, hl, h0, h1, k⟩ =>
    obtain ⟨v, v', rfl, hv, hv'⟩ := rv2 r
    cases (show v = .int i from hv)
    obtain ⟨us, hu, rr⟩ := g.lst ha
    obtain ⟨k3, g3⟩ := g.mutL hu (((rr.take i.toNat).append (.cons hv' RVs.nil)).append (rr.drop i.toNat))
    exact ⟨a, us, i, v', rfl, rfl, hu, by rw [← rr.length]; exact hl, h0, h1, q _ _ ⟨.non, _, k3, rfl, g3, k⟩⟩
theorem q_insert (slot : Slot "list" "insert" "list.insert") (hty : typeOf (.builtin "list.insert") = pure (.type "method_descriptor")) (h : EQ X o ρ G fun x G1 => ∃ a xs, x = .ref a ∧ G1 a = some (.lst xs) ∧ AQ X (e :: es) ρ G1 fun ws G2 => mInsert a ws G2 K)
    (hbase : attributeBase o "insert" X.env (eval o X.env) = eval o X.env := by rfl)
    (hfew : ((backTo cpos (starEach (e :: es) X.env)).all (fun x => !x.1) && (backToKw cpos (keywordEach [] X.env)).all (fun x => x.1.isSome)
      && decide ((e :: es).length + ([] : List Keyword).length + (if ([] : List Keyword).isEmpty then 0 else 1) < 30)) = true := by rfl)
    (hline : (apos.endLine == cpos.line) = true := by rfl) (hs : starEach (e :: es) X.env = (false, eval e X.env) :: starEach es X.env := by rfl) (hplain : (backTo cpos (starEach es X.env)).any (·.1) = false := by rfl) :
    EQ X (.Call (.Attribute o "insert" apos) (e :: es) [] cpos) ρ G K := q_lm slot hty mt_insert mr_insert h hbase hfew hline hs hplain
/-- the first place of a whole number; how often it stands there -/
def mIndexI (a : Addr) (ws : List W) (G : AH) (K : W → AH → Prop) : Prop := match ws with
  | [.int i] => ∃ (ns : List Int) (j : Nat), G a = some (.lst (ns.map W.int)) ∧ ns[j]? = some i ∧ (∀ m, m < j → ns[m]? ≠ some i) ∧ K (.int j) G
  | _ => False
theorem mr_index {c : Ct} : MR c (rIndex c.K) mIndexI := by
  intro a ws vs H G K Q r g h q
  match ws, h with
  | [.int i], ⟨ns, j, ha, hj, hno, k⟩ =>
    obtain ⟨v, rfl, hv⟩ := rv1 r
    cases (show v = .int i from hv)
    obtain ⟨us, hu, rr⟩ := g.lst ha
    cases rr.ints_eq
    refine ⟨a, _, .int i, j, .int i, rfl, rfl, SqL.of hu, rfl, List.all_eq_true.mpr fun x hx => ?_, by rw [List.getElem?_map, hj]; rfl, by simp [eqV], fun m z hm hz => ?_, q _ _ (.stay (w := .int j) rfl g k)⟩
    · obtain ⟨n, _, rfl⟩ := List.mem_map.mp hx; rfl
    · rw [List.getElem?_map] at hz
      cases e : ns[m]? with
      | none => rw [e] at hz; cases hz
      | some n =>
        rw [e] at hz
        cases hz
        have := hno m hm
        rw [e] at this
        have : n ≠ i := fun z => this (by rw [z])
        simp [eqV, this]
def mCountI (a : Addr) (ws : List W) (G : AH) (K : W → AH → Prop) : Prop := match ws with
  | [.int i] => ∃ (ns : List Int), G a = some (.lst (ns.map W.int)) ∧ K (.int (ns.count i : Nat)) G
  | _ => False
theorem mr_count {c : Ct} : MR c (rCntI c.K) mCountI := by
  intro a ws vs H G K Q r g h q
  match ws, h with
  | [.int i], ⟨ns, ha, k⟩ =>
    obtain ⟨v, rfl, hv⟩ := rv1 r
    cases (show v = .int i from hv)
    obtain ⟨us, hu, rr⟩ := g.lst ha
    cases rr.ints_eq
    exact ⟨a, ns, i, rfl, rfl, SqL.of hu, q _ _ (.stay (w := .int _) rfl g k)⟩
theorem q_index (slot : Slot "list" "index" "list.index") (hty : typeOf (.builtin "list.index") = pure (.type "method_descriptor")) (h : EQ X o ρ G fun x G1 => ∃ a xs, x = .ref a ∧ G1 a = some (.lst xs) ∧ AQ X (e :: es) ρ G1 fun ws G2 => mIndexI a ws G2 K)
    (hbase : attributeBase o "index" X.env (eval o X.env) = eval o X.env := by rfl)
    (hfew : ((backTo cpos (starEach (e :: es) X.env)).all (fun x => !x.1) && (backToKw cpos (keywordEach [] X.env)).all (fun x => x.1.isSome)
      && decide ((e :: es).length + ([] : List Keyword).length + (if ([] : List Keyword).isEmpty then 0 else 1) < 30)) = true := by rfl)
    (hline : (apos.endLine == cpos.line) = true := by rfl) (hs : starEach (e :: es) X.env = (false, eval e X.env) :: starEach es X.env := by rfl) (hplain : (backTo cpos (starEach es X.env)).any (·.1) = false := by rfl) :
    EQ X (.Call (.Attribute o "index" apos) (e :: es) [] cpos) ρ G K := q_lm slot hty mt_index mr_index h hbase hfew hline hs hplain
theorem q_count (slot : Slot "list" "count" "list.count") (hty : typeOf (.builtin "list.count") = pure (.type "method_descriptor")) (h : EQ X o ρ G fun x G1 => ∃ a xs, x = .ref a ∧ G1 a = some (.lst xs) ∧ AQ X (e :: es) ρ G1 fun ws G2 => mCountI a ws G2 K)
    (hbase : attributeBase o "count" X.env (eval o X.env) = eval o X.env := by rfl)
    (hfew : ((backTo cpos (starEach (e :: es) X.env)).all (fun x => !x.1) && (backToKw cpos (keywordEach [] X.env)).all (fun x => x.1.isSome)
      && decide ((e :: es).length + ([] : List Keyword).length + (if ([] : List Keyword).isEmpty then 0 else 1) < 30)) = true := by rfl)
    (hline : (apos.endLine == cpos.line) = true := by rfl) (hs : starEach (e :: es) X.env = (false, eval e X.env) :: starEach es X.env := by rfl) (hplain : (backTo cpos (starEach es X.env)).any (·.1) = false := by rfl) :
    EQ X (.Call (.Attribute o "count" apos) (e :: es) [] cpos) ρ G K := q_lm slot hty mt_lcount mr_count h hbase hfew hline hs hplain
/-- list(range(..)) -/
theorem q_lrg2 {p2 pos2 : Pos} (hmr : X.mg "range" = none) (hml : X.mg "list" = none) (h : EQ X a ρ G fun w G1 => EQ X b ρ G1 fun w' G2 => onI w fun i => onI w' fun j => RgOk i j ∧ ∀ q, G2 q = none → K (.ref q) (aup G2 q (.lst (rngW i 1 (j - i).toNat)))) (hc : X.calm = true := by rfl)
    (hgr : Gl X "range" := by rfl) (hgl : Gl X "list" := by rfl) (na2 : starEach [a, b] X.env = (false, eval a X.env) :: starEach [b] X.env := by rfl) (nb : starEach [b] X.env = (false, eval b X.env) :: starEach [] X.env := by rfl)
    (na : starEach [.Call (.Name "range" p) [a, b] [] pos] X.env = (false, eval (.Call (.Name "range" p) [a, b] [] pos) X.env) :: starEach [] X.env := by rfl) : EQ X (.Call (.Name "list" p2) [.Call (.Name "range" p) [a, b] [] pos] [] pos2) ρ G K :=
  EQ.of (pe_listRg hc hgl hml (prg_2 hgr hmr pe_E pe_E na2 nb (by rw [nb]; rfl)) na) fun σ H rs rg => ⟨ρ, G, _, h, rs, rg, fun u H1 ⟨w, G1, k1, rx, rg1, q⟩ => ⟨ρ, G1, _, q, rs.mono k1, rg1, fun u2 H2 ⟨w2, G2, k2, ry, rg2, q⟩ => by
    cases w with
    | int i =>
      cases w2 with
      | int j =>
        cases (show u = .int i from rx)
        cases (show u2 = .int j from ry)
        refine ⟨i, j, rfl, rfl, q.1, fun q' hq => ⟨.ref q', _, (k1.trans k2).trans (Keep.new hq), rfl, rg2.newL hq ?_, q.2 q' (rg2.free hq)⟩⟩
        have go : ∀ l : List Nat, RVs H2 (l.map fun k => W.int (i + (k : Nat) * 1)) (l.map fun k => V.int (i + (k : Nat))) := by
          intro l
          induction l with
          | nil => exact RVs.nil
          | cons x l ih => exact .cons (by show V.int _ = V.int _; rw [Int.mul_one]) ih
        exact go _
      | _ => exact q.elim
    | _ => exact q.elim⟩⟩
theorem q_lrg1 {p2 pos2 : Pos} (hmr : X.mg "range" = none) (hml : X.mg "list" = none) (h : EQ X a ρ G fun w G1 => onI w fun j => RgOk 0 j ∧ ∀ q, G1 q = none → K (.ref q) (aup G1 q (.lst (rngW 0 1 j.toNat)))) (hc : X.calm = true := by rfl)
    (hgr : Gl X "range" := by rfl) (hgl : Gl X "list" := by rfl) (na2 : starEach [a] X.env = (false, eval a X.env) :: starEach [] X.env := by rfl)
    (na : starEach [.Call (.Name "range" p) [a] [] pos] X.env = (false, eval (.Call (.Name "range" p) [a] [] pos) X.env) :: starEach [] X.env := by rfl) : EQ X (.Call (.Name "list" p2) [.Call (.Name "range" p) [a] [] pos] [] pos2) ρ G K :=
  EQ.of (pe_listRg hc hgl hml (prg_1 hgr hmr pe_E na2) na) fun σ H rs rg => ⟨ρ, G, _, h, rs, rg, fun u H1 ⟨w, G1, k1, rx, rg1, q⟩ => by
    cases w with
    | int j =>
      cases (show u = .int j from rx)
      refine ⟨j, rfl, q.1, fun q' hq => ⟨.ref q', _, k1.trans (Keep.new hq), rfl, rg1.newL hq ?_, q.2 q' (rg1.free hq)⟩⟩
      have go : ∀ l : List Nat, RVs H1 (l.map fun k => W.int (0 + (k : Nat) * 1)) (l.map fun k => V.int (0 + (k : Nat))) := by
        intro l
        induction l with
        | nil => exact RVs.nil
        | cons x l ih => exact .cons (by show V.int _ = V.int _; rw [Int.mul_one]) ih
      have e : (j - 0).toNat = j.toNat := by rw [Int.sub_zero]
      show RVs H1 (rngW 0 1 j.toNat) (rgV 0 j)
      unfold rgV
      rw [e]
      exact go _
    | _ => exact q.elim⟩
end

/-! ### list comprehensions -/
/-- the block of a comprehension, wherever it starts -/
abbrev Blk (X : Cx) (scope : Scope) (φ : Cx → Prop) : Prop := ∀ (s : Shared) (H : Hp) (C : Addr) (cl : List (Str × Addr)) (fp : List Addr), φ (X.blk s H scope (compEnvC scope cl C X.env) fp)
/-- the tests of a comprehension -/
structure TsQ (X : Cx) (ifs : List Expr) (ρ : AS) (G : AH) (K : Bool → AH → Prop) : Prop where
  run : ∀ (pins : List (Addr × Obj)) (s : Shared) (σ : St) (H : Hp), Inv X pins σ H s → RS H σ ρ → RG (cc X) H G →
    wpAny (model X.prog X.w) X.A (forIn ifs true fun c r => if r = true then do let ok ← isTrue c X.env (eval c X.env); pure (ForInStep.yield ok) else pure (ForInStep.yield r)) (TP X pins σ (CB (cc X) H K)) X.xe s
section
variable {X : Cx} {elt tg iter c : Expr} {ifs : List Expr} {scope : Scope} {own : List (Str × Nat)} {pos : Pos} {ρ : AS} {G : AH} {K : W → AH → Prop}
theorem ts_nil {K : Bool → AH → Prop} (k : K true G) : TsQ X [] ρ G K := ⟨fun pins s σ H I rs rg => pts_nil.run pins s σ H _ I ⟨G, Keep.refl, rg, k⟩⟩
theorem ts_one {K : Bool → AH → Prop} (h : BQ X c ρ G K) : TsQ X [c] ρ G K := ⟨fun pins s σ H I rs rg => (pts_one pt_T).run pins s σ H _ I ⟨ρ, G, K, h, rs, rg, fun b H' q => q⟩⟩
end
/-! the names of a comprehension forgotten -/
theorem wipe_get (σ : St) : ∀ (vs : List Nat) (j : Nat), (L2.wipe σ vs)[j]? = if j ∈ vs then (σ[j]?).map (fun _ => none) else σ[j]?
  | [], j => by simp [L2.wipe]
  | v :: vs, j => by
    unfold L2.wipe
    have ih := wipe_get σ vs j
    by_cases e : v = j
    · subst e
      rw [if_pos List.mem_cons_self]
      by_cases l : v < (L2.wipe σ vs).length
      · rw [List.getElem?_set_self l]
        have l' : v < σ.length := by rw [wipe_length] at l; exact l
        simp [l']
      · have l' : ¬ v < σ.length := by rw [wipe_length] at l; exact l
        rw [List.getElem?_eq_none (by rw [List.length_set]; omega), List.getElem?_eq_none (by omega)]
        rfl
    · rw [List.getElem?_set_ne e, ih]
      by_cases m : j ∈ vs
      · rw [if_pos m, if_pos (List.mem_cons_of_mem _ m)]
      · rw [if_neg m, if_neg (by simp only [List.mem_cons, not_or]; exact ⟨fun q => e q.symm, m⟩)]
theorem wipe_set {σ : St} {vs : List Nat} {i : Nat} {x : Option V} (h : i ∈ vs) : L2.wipe (σ.set i x) vs = L2.wipe σ vs := by
  refine List.ext_getElem? fun j => ?_
  rw [wipe_get, wipe_get]
  by_cases m : j ∈ vs
  · rw [if_pos m, if_pos m]
    by_cases e : i = j
    · subst e
      by_cases l : i < σ.length
      · rw [List.getElem?_set_self l]; simp [l]
      · rw [List.getElem?_eq_none (by rw [List.length_set]; omega), List.getElem?_eq_none (by omega)]
    · rw [List.getElem?_set_ne e]
  · rw [if_neg m, if_neg m]
    rw [List.getElem?_set_ne (fun q => m (by rw [← q]; exact h))]
theorem wipe_wipe (σ : St) (vs : List Nat) : L2.wipe (L2.wipe σ vs) vs = L2.wipe σ vs := by
  refine List.ext_getElem? fun j => ?_
  rw [wipe_get, wipe_get]
  by_cases m : j ∈ vs
  · rw [if_pos m]
    cases σ[j]? <;> simp [m]
  · rw [if_neg m]
/-- a target of a comprehension: its names are among vs -/
structure NQ (X : Cx) (tg : Expr) (vs : List Nat) (w : W) (ρ : AS) (G : AH) (K : AS → AH → Prop) : Prop where
  run : ∀ (pins : List (Addr × Obj)) (s : Shared) (σ : St) (H : Hp) (v : V) (u : Value), Inv X pins σ H s → RS H σ ρ → RG (cc X) H G → RV H w v → RelV v u →
    wpAny (model X.prog X.w) X.A (assign tg X.env u) (fun _ s' => ∃ σ' H', Inv X pins σ' H' s' ∧ L2.wipe σ' vs = L2.wipe σ vs ∧ CS (cc X) H K σ' H') X.xe s
structure NsQ (X : Cx) (ts : List Expr) (vs : List Nat) (ws : List W) (ρ : AS) (G : AH) (K : AS → AH → Prop) : Prop where
  run : ∀ (pins : List (Addr × Obj)) (s : Shared) (σ : St) (H : Hp) (vals : List V) (us : List Value), Inv X pins σ H s → RS H σ ρ → RG (cc X) H G → RVs H ws vals → Vals vals us →
    wpAny (model X.prog X.w) X.A (assignInOrder ((assignEach ts X.env).map (·.2)) us) (fun _ s' => ∃ σ' H', Inv X pins σ' H' s' ∧ L2.wipe σ' vs = L2.wipe σ vs ∧ CS (cc X) H K σ' H') X.xe s
section
variable {X : Cx} {pos : Pos} {vs : List Nat} {ρ : AS} {G : AH} {K : AS → AH → Prop}
theorem n_name {x : Str} {i : Nat} {w : W} (hN : X.N.Nodup) (k : K (ρ.set i (some w)) G) (hi : X.N[i]? = some x := by rfl) (hv : i ∈ vs := by decide) (hx : Loc X.env.scope x := by first | exact .inl rfl | exact .inr rfl)
    (hf : X.fn x = true ∨ X.env.scope.names.lookup x = some .local := by first | exact .inl rfl | exact .inr rfl) : NQ X (.Name x pos) vs w ρ G K :=
  ⟨fun pins s σ H v u I rs rg rv r => (pg_name hN hi hx hf).run pins s σ H v u (fun σ' H' => L2.wipe σ' vs = L2.wipe σ vs ∧ CS (cc X) H K σ' H') I r ⟨wipe_set hv, _, G, Keep.refl, rs.set i rv, rg, k⟩⟩
theorem ns_nil (k : K ρ G) : NsQ X [] vs [] ρ G K := ⟨fun pins s σ H v u I rs rg rv r => pgs_nil.run pins s σ H v u (fun σ' H' => L2.wipe σ' vs = L2.wipe σ vs ∧ CS (cc X) H K σ' H') I r ⟨rv, rfl, ρ, G, Keep.refl, rs, rg, k⟩⟩
theorem ns_cons {e : Expr} {es : List Expr} {w : W} {ws : List W} (h : NQ X e vs w ρ G fun ρ1 G1 => NsQ X es vs ws ρ1 G1 K)
    (hs : (assignEach (e :: es) X.env).map (·.2) = assign e X.env :: (assignEach es X.env).map (·.2) := by rfl) : NsQ X (e :: es) vs (w :: ws) ρ G K :=
  ⟨fun pins s σ H v u I rs rg ⟨v1, vr, e1, r1, r2⟩ r => by
    subst e1
    cases r with
    | cons r rr =>
      rw [hs]
      refine assignInOrder_cons (thn (h.run pins s σ H _ _ I rs rg r1 r) fun _ s1 ⟨σ1, H1, I1, e1, ρ1, G1, k1, rs1, rg1, q1⟩ => ?_)
      exact thn (q1.run pins s1 σ1 H1 _ _ I1 rs1 rg1 (r2.mono k1) rr) fun _ s2 ⟨σ2, H2, I2, e2, q2⟩ => ⟨σ2, H2, I2, e2.trans e1, q2.pre k1⟩⟩
theorem n_tup {es : List Expr} {kk n : Nat} {ws : List W} (hl : ws.length = n) (h : NsQ X es vs ws ρ G K) (hc : X.calm = true := by rfl)
    (hn : (assignEach es X.env).length = n := by rfl) (hst : (assignEach es X.env).findIdx? (·.1) = none := by rfl) : NQ X (.Tuple es kk pos) vs (.tup ws) ρ G K :=
  ⟨fun pins s σ H v u I rs rg ⟨a, vals, e, ha, r⟩ rv => by
    subst e
    cases rv
    obtain ⟨its, rr, ht, hz⟩ := I.tuple (SqT.of ha)
    refine assign_Tuple_tuple (I.ok.hd hc) ht (by simp [hn, ← hl, r.length, rr.length]) hst fun h' hx => ?_
    have I1 : Inv X pins σ H { s with heap := h' } := I.kept (t' := s.toks) fun b o e => hx b o (Nat.ne_of_lt (Heap.lt_size e)) e
    exact h.run pins _ σ H vals _ I1 rs rg r (by simpa using rr)⟩
end
section
variable {X : Cx} {elt tg iter c : Expr} {ifs : List Expr} {scope : Scope} {own : List (Str × Nat)} {pos : Pos} {ρ : AS} {G : AH} {K : W → AH → Prop}
/-- what the turns of a comprehension ask -/
structure LcK (X : Cx) (scope : Scope) (tg elt : Expr) (ifs : List Expr) (vs : List Nat) (ρ : AS) (K : W → AH → Prop) (xs : List W) (okk : AH → Prop) (G1 : AH) : Prop where
  h : ∀ D, G1 D = none → ∃ P : Nat → AH → Prop, P 0 (aup G1 D (.lst [])) ∧ (∀ i G', i ≤ xs.length → P i G' → okk G') ∧
    (∀ i x G', xs[i]? = some x → P i G' → Blk X scope fun Y => NQ Y tg vs x (wipeW ρ vs) G' fun ρ2 G2 => Blk X scope fun Y => TsQ Y ifs ρ2 G2 fun b G3 => ifB b
      (Blk X scope fun Y => EQ Y elt ρ2 G3 fun y G4 => ∃ acc, G4 D = some (.lst acc) ∧ acc.length < sizeLine ∧ P (i + 1) (aup G4 D (.lst (acc ++ [y])))) (P (i + 1) G3)) ∧ ∀ G', P xs.length G' → K (.ref D) G'
def gB (X : Cx) (scope : Scope) (tg : Expr) (vs : List Nat) : TG := fun v σ H Q => ∃ w ρ G K, (Blk X scope fun Y => NQ Y tg vs w ρ G K) ∧ RS H σ ρ ∧ RG (cc X) H G ∧ RV H w v ∧ ∀ σ' H', L2.wipe σ' vs = L2.wipe σ vs → CS (cc X) H K σ' H' → Q σ' H'
def tsB (X : Cx) (scope : Scope) (ifs : List Expr) : TT := fun σ H Q => ∃ ρ G K, (Blk X scope fun Y => TsQ Y ifs ρ G K) ∧ RS H σ ρ ∧ RG (cc X) H G ∧ ∀ b H', CB (cc X) H K b H' → Q b H'
def tB' (X : Cx) (scope : Scope) (e : Expr) : TE := fun σ H Q => ∃ ρ G K, (Blk X scope fun Y => EQ Y e ρ G K) ∧ RS H σ ρ ∧ RG (cc X) H G ∧ ∀ b H', CW (cc X) H K b H' → Q b H'
theorem lc_read {σ : St} {H H1 : Hp} {J : It} {Q : VK} {G1 : AH} {xs : List W} {okk : AH → Prop} {vs : List Nat} (rs : RS H1 σ ρ) (rg1 : RG (cc X) H1 G1) (io : IterOk (cc X) J H1 xs okk) (k : LcK X scope tg elt ifs vs ρ K xs okk G1) (hQ : ∀ v H', CW (cc X) H1 K v H' → Q v H') :
    ∀ D, H1 D = none → ∃ W : Nat → Nat → Hp → Prop, (∃ m, W 0 m (upd H1 D (.lst []))) ∧ ∀ i m H, W i m H →
      (J.stop i H ∧ Q (.ref D) H) ∨ (J.go i H ∧ ∃ Nx : Hp → Prop, (∀ H', Nx H' → ∃ m', m' < m ∧ W (i + 1) m' H') ∧ ∀ x H', J.yld i H x H' → gB X scope tg vs x (L2.wipe σ vs) H' fun σ2 H2 => L2.wipe σ2 vs = L2.wipe σ vs ∧ tsB X scope ifs σ2 H2 fun b H3 =>
        if b = true then tB' X scope elt σ2 H3 fun y H4 => ∃ acc, H4 D = some (.lst acc) ∧ acc.length < sizeLine ∧ Nx (upd H4 D (.lst (acc ++ [y]))) else Nx H3) := by
  intro D hD
  obtain ⟨P, p0, pok, turn, fin⟩ := k.h D (rg1.free hD)
  refine ⟨fun i m H' => ∃ G', m = xs.length - i ∧ i ≤ xs.length ∧ Keep H1 H' ∧ RG (cc X) H' G' ∧ P i G', ⟨_, _, rfl, Nat.zero_le _, Keep.new hD, rg1.newL hD RVs.nil, p0⟩, ?_⟩
  rintro i m H2 ⟨G2, rfl, hi, k2, rg2, p2⟩
  by_cases hlt : i < xs.length
  · refine .inr ⟨io.go i H2 G2 k2 rg2 (pok i G2 hi p2) hlt, fun H' => ∃ G', Keep H1 H' ∧ RG (cc X) H' G' ∧ P (i + 1) G', fun H' ⟨G', k, rg', p'⟩ => ⟨xs.length - (i + 1), by omega, G', rfl, hlt, k, rg', p'⟩, fun x H' y => ?_⟩
    obtain ⟨k3, rg3, w, hw, rw'⟩ := io.yld i H2 G2 x H' k2 rg2 (pok i G2 hi p2) hlt y
    refine ⟨w, _, G2, _, turn i w G2 hw p2, (rs.mono (k2.trans k3)).wipe vs, rg3, rw', ?_⟩
    rintro σ4 H4 e4 ⟨ρ4, G4, k4, rs4, rg4, q4⟩
    refine ⟨e4.trans (wipe_wipe σ vs), ρ4, G4, _, q4, rs4, rg4, ?_⟩
    rintro b H5 ⟨G5, k5, rg5, q5⟩
    have kk : Keep H1 H5 := ((k2.trans k3).trans k4).trans k5
    cases b with
    | false => exact ⟨G5, kk, rg5, q5.h⟩
    | true =>
      refine ⟨ρ4, G5, _, q5.h, rs4.mono k5, rg5, ?_⟩
      rintro y H6 ⟨wy, G6, k6, ry, rg6, acc, ha, hl, p6⟩
      obtain ⟨vs6, h6, r6⟩ := rg6.lst ha
      obtain ⟨k7, rg7⟩ := rg6.mutL h6 (r6.append (.cons ry RVs.nil))
      exact ⟨vs6, h6, by rw [← r6.length]; exact hl, _, (kk.trans k6).trans k7, rg7, p6⟩
  · have e : i = xs.length := by omega
    subst e
    exact .inl ⟨io.stop _ H2 G2 k2 rg2 (pok _ G2 hi p2) (Nat.le_refl _), hQ _ _ ⟨.ref D, G2, k2, rfl, rg2, fin G2 p2⟩⟩
theorem q_lc (hN : X.N.Nodup) (ok : BlkOk X.N X.env.scope scope own) (h : IQ X tg iter ρ G (LcK X scope tg elt ifs (own.map (·.2)) ρ K)) (hc : X.calm = true := by rfl) (hs : ∀ x, foldedSetIterable iter X.env x = pure x := by intro _; rfl) :
    EQ X (.ListComp elt [⟨tg, iter, ifs, 0⟩] scope pos) ρ G K :=
  EQ.of (pe_lc (g := gB X scope tg (own.map (·.2))) (tt := tsB X scope ifs) (te := tB' X scope elt) hc hN pi_I ok
    (fun s0 H0 C cl fp => ⟨fun pins s σ H v u Q I r ⟨w, ρ, G, K, h, rs, rg, rv, k⟩ => thn ((h s0 H0 C cl fp).run pins s σ H v u I rs rg rv r) fun _ s' ⟨σ', H', I', e, q⟩ => ⟨σ', H', I', k σ' H' e q⟩⟩)
    (fun s0 H0 C cl fp => ⟨fun pins s σ H Q I ⟨ρ, G, K, h, rs, rg, k⟩ => thn ((h s0 H0 C cl fp).run pins s σ H I rs rg) fun b s' ⟨H', I', q⟩ => ⟨H', I', k b H' q⟩⟩)
    (fun s0 H0 C cl fp => ⟨fun pins s σ H Q I ⟨ρ, G, K, h, rs, rg, k⟩ => thn ((h s0 H0 C cl fp).run pins s σ H I rs rg) fun u s' ⟨v, H', I', r, q⟩ => ⟨v, H', I', r, k v H' q⟩⟩) hs)
    fun σ H rs rg => ⟨ρ, G, _, h, rs, rg, fun J H1 ⟨xs, okk, G1, k1, rg1, io, q⟩ => lc_read (H := H) (rs.mono k1) rg1 io q fun v H' z => z.pre k1⟩
/-- name = [..] -/
theorem s_setLc {A : AEnds} {i : Nat} {y : Str} {py spos : Pos} (hN : X.N.Nodup) (ok : BlkOk X.N X.env.scope scope own) (h : IQ X tg iter ρ G (LcK X scope tg elt ifs (own.map (·.2)) ρ fun w G1 => A.nx (ρ.set i (some w)) G1)) (hy : X.N[i]? = some y := by rfl) (hyl : X.env.scope.names.lookup y = some .local := by rfl)
    (hsw : swapsWith (.ListComp elt [⟨tg, iter, ifs, 0⟩] scope pos) (some (.Name y py)) spos.line X.env = pure true := by exact sw_true rfl rfl rfl (by decide +kernel)) (hc : X.calm = true := by rfl) (hs : ∀ x, foldedSetIterable iter X.env x = pure x := by intro _; rfl) :
    S1 X (.Assign [.Name y py] (.ListComp elt [⟨tg, iter, ifs, 0⟩] scope pos) spos) ρ G A :=
  S1.of (ps_setLc (g := gB X scope tg (own.map (·.2))) (tt := tsB X scope ifs) (te := tB' X scope elt) hc hN hy hyl hsw pi_I ok
    (fun s0 H0 C cl fp => ⟨fun pins s σ H v u Q I r ⟨w, ρ, G, K, h, rs, rg, rv, k⟩ => thn ((h s0 H0 C cl fp).run pins s σ H v u I rs rg rv r) fun _ s' ⟨σ', H', I', e, q⟩ => ⟨σ', H', I', k σ' H' e q⟩⟩)
    (fun s0 H0 C cl fp => ⟨fun pins s σ H Q I ⟨ρ, G, K, h, rs, rg, k⟩ => thn ((h s0 H0 C cl fp).run pins s σ H I rs rg) fun b s' ⟨H', I', q⟩ => ⟨H', I', k b H' q⟩⟩)
    (fun s0 H0 C cl fp => ⟨fun pins s σ H Q I ⟨ρ, G, K, h, rs, rg, k⟩ => thn ((h s0 H0 C cl fp).run pins s σ H I rs rg) fun u s' ⟨v, H', I', r, q⟩ => ⟨v, H', I', r, k v H' q⟩⟩) hs)
    fun σ H rs rg => ⟨ρ, G, _, h, rs, rg, fun J H1 ⟨xs, okk, G1, k1, rg1, io, q⟩ => lc_read (H := H) (Q := fun x H1 => gName i x σ H1 (CD (cc X) H A).nx) (rs.mono k1) rg1 io q fun v H' ⟨w, G', k, r, g, z⟩ => ⟨_, G', k1.trans k, ((rs.mono k1).mono k).set i r, g, z⟩⟩
/-- one name, no tests, each element a value and nothing else -/
theorem lk_map1 {y : Str} {i : Nat} {p : Pos} {f : W → W} {xs : List W} {okk : AH → Prop} {G1 : AH} (hN : X.N.Nodup) (hl : xs.length ≤ 100000) (ho : ∀ D ws, G1 D = none → okk (aup G1 D (.lst ws)))
    (turn : ∀ x, x ∈ xs → ∀ D ws, G1 D = none → Blk X scope fun Y => EQ Y elt (ρ.set i (some x)) (aup G1 D (.lst ws)) fun v G' => v = f x ∧ G' = aup G1 D (.lst ws)) (k : ∀ D, G1 D = none → K (.ref D) (aup G1 D (.lst (xs.map f))))
    (hi : X.N[i]? = some y := by rfl) (hx : Blk X scope fun Y => Loc Y.env.scope y := by exact fun _ _ _ _ _ => .inl rfl) (hf : Blk X scope fun Y => Y.fn y = true ∨ Y.env.scope.names.lookup y = some .local := by exact fun _ _ _ _ _ => .inr rfl) :
    LcK X scope (.Name y p) elt [] [i] ρ K xs okk G1 := ⟨fun D hD => by
  refine ⟨fun n G' => G' = aup G1 D (.lst ((xs.take n).map f)), rfl, fun n G' _ e => by subst e; exact ho D _ hD, fun n x G' hx' e => ?_, fun G' e => by subst e; rw [List.take_length]; exact k D hD⟩
  subst e
  intro s0 H0 C cl fp
  refine n_name hN ?_ hi (by simp) (hx s0 H0 C cl fp) (hf s0 H0 C cl fp)
  intro s0 H0 C cl fp
  refine ts_nil (ifT ?_)
  intro s0 H0 C cl fp
  have e : (wipeW ρ [i]).set i (some x) = ρ.set i (some x) := by
    show (ρ.set i none).set i (some x) = _
    rw [List.set_set]
  rw [e]
  refine (turn x (List.mem_of_getElem? hx') D _ hD s0 H0 C cl fp).mono fun v G' ⟨e1, e2⟩ => ?_
  subst e1 e2
  refine ⟨_, aup_same, ?_, ?_⟩
  · rw [List.length_map, List.length_take]
    exact Nat.lt_of_le_of_lt (Nat.le_trans (Nat.min_le_right _ _) hl) (by decide)
  · show aup _ D _ = aup G1 D (.lst ((xs.take (n + 1)).map f))
    rw [aup_aup, List.take_succ, hx', Option.toList_some, List.map_append]
    rfl⟩
end
/-- .. over the values of a row of things -/
theorem lk_mapZ {X : Cx} {elt : Expr} {scope : Scope} {ρ : AS} {K : W → AH → Prop} {ι : Type} {y : Str} {i : Nat} {p : Pos} {zs : List ι} (g h : ι → W) {okk : AH → Prop} {G1 : AH} (hN : X.N.Nodup) (hl : zs.length ≤ 100000) (ho : ∀ D ws, G1 D = none → okk (aup G1 D (.lst ws)))
    (turn : ∀ z, z ∈ zs → ∀ D ws, G1 D = none → Blk X scope fun Y => EQ Y elt (ρ.set i (some (g z))) (aup G1 D (.lst ws)) fun v G' => v = h z ∧ G' = aup G1 D (.lst ws)) (k : ∀ D, G1 D = none → K (.ref D) (aup G1 D (.lst (zs.map h))))
    (hi : X.N[i]? = some y := by rfl) (hx : Blk X scope fun Y => Loc Y.env.scope y := by exact fun _ _ _ _ _ => .inl rfl) (hf : Blk X scope fun Y => Y.fn y = true ∨ Y.env.scope.names.lookup y = some .local := by exact fun _ _ _ _ _ => .inr rfl) :
    LcK X scope (.Name y p) elt [] [i] ρ K (zs.map g) okk G1 := ⟨fun D hD => by
  refine ⟨fun n G' => G' = aup G1 D (.lst ((zs.take n).map h)), rfl, fun n G' _ e => by subst e; exact ho D _ hD, fun n x G' hx' e => ?_, fun G' e => by subst e; rw [List.length_map, List.take_length]; exact k D hD⟩
  subst e
  obtain ⟨z, hz, rfl⟩ : ∃ z, zs[n]? = some z ∧ g z = x := by
    rw [List.getElem?_map] at hx'
    exact Option.map_eq_some_iff.mp hx'
  intro s0 H0 C cl fp
  refine n_name hN ?_ hi (by simp) (hx s0 H0 C cl fp) (hf s0 H0 C cl fp)
  intro s0 H0 C cl fp
  refine ts_nil (ifT ?_)
  intro s0 H0 C cl fp
  have e : (wipeW ρ [i]).set i (some (g z)) = ρ.set i (some (g z)) := by
    show (ρ.set i none).set i (some (g z)) = _
    rw [List.set_set]
  rw [e]
  refine (turn z (List.mem_of_getElem? hz) D _ hD s0 H0 C cl fp).mono fun v G' ⟨e1, e2⟩ => ?_
  subst e1 e2
  refine ⟨_, aup_same, ?_, ?_⟩
  · rw [List.length_map, List.length_take]
    exact Nat.lt_of_le_of_lt (Nat.le_trans (Nat.min_le_right _ _) hl) (by decide)
  · show aup _ D _ = aup G1 D (.lst ((zs.take (n + 1)).map h))
    rw [aup_aup, List.take_succ, hz, Option.toList_some, List.map_append]
    rfl⟩
section
variable {X : Cx} {pos : Pos} {ρ : AS} {G : AH}
/-- the name in the i-th slot -/
theorem qv (i : Nat) {K : W → AH → Prop} {x : Str} {w : W} (hρ : ρ[i]? = some (some w)) (k : K w G) (hN : X.N[i]? = some x := by rfl) (hv : Vis X.env.scope x := by first | exact Or.inl rfl | exact Or.inr (Or.inl rfl) | exact Or.inr (Or.inr rfl))
    (hd : (x == ("__debug__" : Str)) = false := by decide) (hcd : (x == ("__classdict__" : Str)) = false := by decide) : EQ X (.Name x pos) ρ G K := q_var hρ k hN hv hd hcd
end
theorem u65 {k : Nat} {A : Around} (r : Room k A) : A.units + 65 < cLine := by have := r.un; omega
theorem u64 {k : Nat} {A : Around} (r : Room k A) : A.units + 64 < cLine := r.units
theorem u9 {k : Nat} {A : Around} (r : Room k A) : A.units + 9 < cLine := by have := r.un; omega
end AL
namespace AL
open PySem PySem.Spec L2
open PyProof.Rows hiding St
/-! ### the script: read alone -/
def Scr (c : Ct) (G : AH) (a : Addr) (ns : List Int) : Prop := G a = some (.fro (ns.map W.int)) ∨ ∀ H : Hp, SqL c.K H a (ns.map V.int)
theorem Scr.sq {c : Ct} {H : Hp} {G : AH} {a : Addr} {ns : List Int} (g : RG c H G) (h : Scr c G a ns) : SqL c.K H a (ns.map V.int) := by
  rcases h with h | h
  · obtain ⟨vs, h1, h2⟩ := g a _ h
    cases h2.ints_eq
    exact .inl h1
  · exact h H
theorem Scr.sub {c : Ct} {G G' : AH} {a : Addr} {ns : List Int} (h : Scr c G a ns) (s : Sub G G') : Scr c G' a ns := h.elim (fun h => .inl (s _ _ h)) .inr
section
variable {X : Cx} {a b d e : Expr} {pos : Pos} {ρ : AS} {G : AH} {K : W → AH → Prop} {A : AEnds}
def fSlS (c : Ct) (x : W) (lo hi : Option Int) (G : AH) (K : W → AH → Prop) : Prop := match x with
  | .ref a => ∃ ns, Scr c G a ns ∧ ∀ p, G p = none → K (.ref p) (aup G p (.lst ((cutW (ns.map W.int) lo hi))))
  | _ => False
theorem q_slS {lo hi : Option Expr} {p2 : Pos} (h : EQ X a ρ G fun x G1 => OQ X lo ρ G1 fun l G2 => OQ X hi ρ G2 fun u G3 => fSlS (cc X) x l u G3 K) : EQ X (.Subscript a (.Slice lo hi none p2) pos) ρ G K :=
  EQ.of (pe_slice sl_list pe_E po_O po_O) fun σ H rs rg => ⟨ρ, G, _, h, rs, rg, fun u H1 ⟨x, G1, k1, rx, rg1, hb⟩ => ⟨ρ, G1, _, hb, rs.mono k1, rg1, fun l H2 ⟨G2, k2, rg2, hr⟩ => ⟨ρ, G2, _, hr, rs.mono (k1.trans k2), rg2, fun r H3 ⟨G3, k3, rg3, hq⟩ => by
    have rx3 := rx.mono (k2.trans k3)
    cases x with
    | ref a =>
      obtain ⟨ns, hs, kk⟩ := hq
      cases (show u = .ref a from rx3)
      exact ⟨a, _, rfl, hs.sq rg3, fun p hp => ⟨.ref p, _, ((k1.trans k2).trans k3).trans (Keep.new hp), rfl, rg3.newL hp ((RVs.ints ns).cut l r), kk p (rg3.free hp)⟩⟩
    | _ => exact hq.elim⟩⟩⟩
theorem cutW_map {α : Type} (f : α → W) (xs : List α) (lo hi : Option Int) : cutW (xs.map f) lo hi = ((xs.drop (HT.sIx xs.length 0 lo)).take (HT.sIx xs.length xs.length hi - HT.sIx xs.length 0 lo)).map f := by
  unfold cutW
  rw [List.length_map, ← List.map_drop, ← List.map_take]
/-- len of the script -/
theorem q_lenS {p : Pos} {es : List Expr} (hm : X.mg "len" = none) (h : AQ X (e :: es) ρ G fun ws G1 => ∃ a ns, ws = [.ref a] ∧ Scr (cc X) G1 a ns ∧ K (.int ns.length) G1) (hg : Gl X "len" := by rfl)
    (he : starEach (e :: es) X.env = (false, eval e X.env) :: starEach es X.env := by rfl) (hpl : (backTo pos (starEach es X.env)).any (·.1) = false := by rfl) : EQ X (.Call (.Name "len" p) (e :: es) [] pos) ρ G K :=
  q_callB (R := fun ws G1 K => ∃ a ns, ws = [.ref a] ∧ Scr (cc X) G1 a ns ∧ K (.int ns.length) G1) call_len (fun ws vs H G K Q r g ⟨a, ns, e, hs, k⟩ q => by
    subst e
    obtain ⟨v, rfl, hv⟩ := rv1 r
    cases (show v = .ref a from hv)
    exact ⟨_, ns.length, rfl, .inl ⟨_, hs.sq g, by rw [List.length_map]⟩, q _ _ (.stay (w := .int _) rfl g k)⟩) hm PySem.boot_len h hg (by decide) (by decide) he hpl
/-- a, b, c = .. -/
theorem s_par3 {i j l : Nat} {x y z : Str} {px py pz pt : Pos} {kt k2 : Nat} {pt2 : Pos} (hN : X.N.Nodup) (h : EQ X a ρ G fun w G1 => EQ X b ρ G1 fun w' G2 => EQ X d ρ G2 fun w3 G3 => A.nx (((ρ.set i (some w)).set j (some w')).set l (some w3)) G3)
    (hw : swappedStores [.Tuple [.Name x px, .Name y py, .Name z pz] kt pt] (.Tuple [a, b, d] k2 pt2) X.env = pure (some [x, y, z]) := by rfl) (hs1 : starEach [d] X.env = (false, eval d X.env) :: starEach [] X.env := by rfl) (hs2 : starEach [b, d] X.env = (false, eval b X.env) :: starEach [d] X.env := by rfl) (hs3 : starEach [a, b, d] X.env = (false, eval a X.env) :: starEach [b, d] X.env := by rfl) (hc : X.calm = true := by rfl) (hi : X.N[i]? = some x := by rfl) (hj : X.N[j]? = some y := by rfl) (hl : X.N[l]? = some z := by rfl) (hij : i ≠ j := by decide) (hil : i ≠ l := by decide) (hjl : j ≠ l := by decide)
    (hx : X.env.scope.names.lookup x = some .local := by rfl) (hy : X.env.scope.names.lookup y = some .local := by rfl) (hz : X.env.scope.names.lookup z = some .local := by rfl)
    (hs : swapsWithSole [.Tuple [.Name x px, .Name y py, .Name z pz] kt pt] (.Tuple [a, b, d] k2 pt2) pos.line X.env = pure false := by rfl) : S1 X (.Assign [.Tuple [.Name x px, .Name y py, .Name z pz] kt pt] (.Tuple [a, b, d] k2 pt2) pos) ρ G A :=
  S1.of (ps_par3 hc hN hi hj hl hij hil hjl hx hy hz (pa_cons pe_E (pa_cons pe_E (pa_cons pe_E pa_nil hs1) hs2) hs3) hw hs) fun σ H rs rg => ⟨ρ, G, _, h, rs, rg, fun u H1 ⟨w, G1, k1, rx, rg1, q⟩ => ⟨ρ, G1, _, q, rs.mono k1, rg1, fun v H2 ⟨w', G2, k2, ry, rg2, q2⟩ => ⟨ρ, G2, _, q2, rs.mono (k1.trans k2), rg2, fun v3 H3 ⟨w3, G3, k3, rz, rg3, q3⟩ =>
    ⟨u, v, v3, rfl, _, G3, (k1.trans k2).trans k3, (((rs.mono ((k1.trans k2).trans k3)).set i (rx.mono (k2.trans k3))).set j (ry.mono k3)).set l rz, rg3, q3⟩⟩⟩⟩
end
/-! ### data told -/
theorem DWs.ints {G : AH} : ∀ ns : List Int, DWs G (ns.map W.int) (ns.map PyData.int)
  | [] => .nil
  | n :: ns => .cons (.int n) (DWs.ints ns)
theorem lay_ints : ∀ ns : List Int, PyData.canLayAll0 (ns.map PyData.int) = true
  | [] => rfl
  | n :: ns => by
    have := lay_ints ns
    show (_ && _) = true
    rw [this]; rfl
theorem dep_ints : ∀ ns : List Int, PyData.depthAll (ns.map PyData.int) ≤ 0
  | [] => Nat.le_refl _
  | n :: ns => by
    have := dep_ints ns
    show max _ _ ≤ 0
    exact Nat.max_le.mpr ⟨Nat.le_refl _, this⟩
theorem eqv_ints : ∀ ns ms : List Int, PyData.eqvAll (ns.map PyData.int) (ms.map PyData.int) = decide (ns = ms)
  | [], [] => rfl
  | n :: ns, m :: ms => by
    show (PyData.eqv (.int n) (.int m) && PyData.eqvAll (ns.map PyData.int) (ms.map PyData.int)) = _
    rw [eqv_ints ns ms]
    show ((n == m) && _) = _
    by_cases e : n = m
    · subst e; simp
    · simp [e]
  | [], _ :: _ => rfl
  | _ :: _, [] => rfl
theorem shaped_list {ds : List PyData} (h : PyData.canLayAll0 ds = true) (d : PyData.depthAll ds ≤ 60) : SeqAt.shaped (.list ds) = true := by
  unfold SeqAt.shaped
  rw [show (PyData.list ds).canLay0 = true from h, Bool.true_and]
  refine decide_eq_true ?_
  show PyData.depthAll ds + 1 ≤ 64
  omega
theorem shaped_tuple {ds : List PyData} (h : PyData.canLayAll0 ds = true) (d : PyData.depthAll ds ≤ 60) : SeqAt.shaped (.tuple ds) = true := by
  unfold SeqAt.shaped
  rw [show (PyData.tuple ds).canLay0 = true from h, Bool.true_and]
  refine decide_eq_true ?_
  show PyData.depthAll ds + 1 ≤ 64
  omega
theorem shaped_ints (ns : List Int) : SeqAt.shaped (.list (ns.map PyData.int)) = true := shaped_list (lay_ints ns) (Nat.le_trans (dep_ints ns) (by decide))
/-- lists of whole numbers compared -/
theorem fEq_ints {G : AH} {K : W → AH → Prop} {a b : Addr} {ns ms : List Int} {neg : Bool} (ha : G a = some (.lst (ns.map W.int))) (hb : G b = some (.lst (ms.map W.int))) (k : K (.bl (if neg then !decide (ns = ms) else decide (ns = ms))) G) : fEqB neg (.ref a) (.ref b) G K :=
  ⟨.list (ns.map PyData.int), .list (ms.map PyData.int), .lst ha (DWs.ints ns), .lst hb (DWs.ints ms), shaped_ints ns, shaped_ints ms, by
    show K (.bl (if neg = true then !PyData.eqvAll (ns.map PyData.int) (ms.map PyData.int) else PyData.eqvAll (ns.map PyData.int) (ms.map PyData.int))) G
    rw [eqv_ints]; exact k⟩
/-- a whole number in a list of them -/
theorem fIn_ints {G : AH} {K : W → AH → Prop} {a : Addr} {ns : List Int} {i : Int} {neg : Bool} (ha : G a = some (.lst (ns.map W.int))) (k : K (.bl (if neg then !decide (i ∈ ns) else decide (i ∈ ns))) G) : fInD neg (.int i) (.ref a) G K := by
  refine ⟨.int i, ns.map PyData.int, .int i, .lst ha (DWs.ints ns), rfl, shaped_ints ns, ?_⟩
  have : ((ns.map PyData.int).any fun z => PyData.eqv z (.int i)) = decide (i ∈ ns) := by
    rw [List.any_map]
    clear ha k
    induction ns with
    | nil => rfl
    | cons n ns ih =>
      rw [List.any_cons, ih]
      show ((n == i) || _) = _
      by_cases e : n = i
      · subst e; simp
      · have e' : ¬ i = n := fun z => e z.symm
        simp [e, e']
  rw [this]; exact k
end AL
namespace AL
open PySem PySem.Spec L2
open PyProof.Rows hiding St
/-! ### exceptions -/
/-- what a raise may ask -/
structure Thr (X : Cx) (KE : XKA) : Prop where
  ex : ∃ Wx : WX, Takes X Wx ∧ ∀ u o σ H G, RG (cc X) H G → KE u o G → Wx u o σ H
theorem takes_keep {X : Cx} {W : WX} (t : Takes X W) : Takes X fun c d σ H => Keep X.H_0 H → W c d σ H := fun u s' ⟨a, B, sI, pins, σ, H, cls, d, e, I, nb, up, sky, na, os, ag, w⟩ =>
  t u s' ⟨a, B, sI, pins, σ, H, cls, d, e, I, nb, up, sky, na, os, ag, w ⟨I.base.tups, I.base.frzs⟩⟩
theorem fnA_ofX {P : Program} {w : World} {K : PySem.W.Frag} {mg : Str → Option Value} {base : Heap} {x qual : Str} {st : Stmt} {f : Addr} {fd : FuncData} {N ps : List Str} {k : Nat} {sp : ASp} (F : Fun K x qual st f fd) (S : FnScope N ps (defScope st))
    (len : ∀ ws G Kc KE, sp ws G Kc KE → ws.length = ps.length)
    (body : ∀ (cdv : Value) (A : Around) (outer : List Env) (s : Shared) (H : Hp) (E : XK) (ws : List W) (G : AH) (Kc : W → AH → Prop) (KE : XKA), Room k (A.deeper (envOfC qual (defScope st) s.heap.objs.size f cdv)) → sp ws G Kc KE →
      Thr (cxOf (L2.CX P w) P w K mg base N qual (defScope st) f cdv A outer s H E) (fun u o G' => ∃ G'', Sub G'' G' ∧ KE u o G'') →
      SQ (cxOf (L2.CX P w) P w K mg base N qual (defScope st) f cdv A outer s H E) (defBody st) (startW N ws) G { nx := fun _ G' => ∃ G'', Sub G'' G' ∧ Kc .non G'', rt := fun v G' => ∃ G'', Sub G'' G' ∧ Kc v G'' }) :
    FnOk P w K mg base (L2.CX P w) (k + 1) f fd ps (low ⟨P, w, K⟩ sp) := by
  refine F.okX S (fun vs H Q E ⟨ws, G, Kc, KE, r, g, h, _, _⟩ => by rw [← r.length]; exact len ws G Kc KE h) fun cdv A outer s H vs Q E hr ⟨ws, G, Kc, KE, r, g, h, q, qe⟩ => ?_
  refine ⟨_, pss_S, startW N ws, G, _, body cdv A outer s H E ws G Kc KE hr h ⟨_, takes_keep (takes_of rfl rfl rfl rfl), fun u o σ H' G' g' ⟨G'', s1, ke⟩ kp => qe u o H' ⟨G'', kp, g'.sub s1, ke⟩⟩, RS.start r, g, ?_⟩
  exact ⟨fun σ' H' ⟨ρ', G', k1, _, g1, G'', s1, q1⟩ => q _ _ ⟨.non, G'', k1, rfl, g1.sub s1, q1⟩, fun v H' ⟨w, G', k1, r1, g1, G'', s1, q1⟩ => q v H' ⟨w, G'', k1, r1, g1.sub s1, q1⟩, fun _ _ ⟨_, _, _, _, _, z⟩ => z, fun _ _ ⟨_, _, _, _, _, z⟩ => z⟩
/-- a class of the text that stands on ValueError -/
structure ExcT (K : PySem.W.Frag) (mg : Str → Option Value) (x : Str) (C : Addr) : Prop where
  q : PySem.W.excIn K C [.type "ValueError", .type "Exception", .type "BaseException", .type "object"] "ValueError.__new__" = true
  gC : mg x = some (.ref C)
  kC : PySem.W.keepIn K (.ref C) = true
  eC : PySem.W.subIn K (.ref C) (.type "BaseException") = some true
  tC : PySem.W.typeIn K (.ref C) = some (.type "type")
  ex : PySem.W.exmOne K (.ref C) (.ref C) = some true
section
variable {X : Cx} {e : Expr} {es : List Expr} {p p2 pos pos' cpos spos np : Pos} {ρ : AS} {G : AH} {K : W → AH → Prop} {A : AEnds} {KE : XKA} {x m y fn : Str} {C : Addr} {j i k : Nat} {f : Addr} {fd : FuncData} {ps : List Str} {sp : ASp}
theorem s_raise (th : Thr X KE) (T : ExcT X.K X.mg x C) (h : KE (.ref C) none G) (hc : X.calm = true := by rfl) (hg : Gl X x := by rfl) (hdb : (x == ("__debug__" : Str)) = false := by decide) : S1 X (.Raise (some (.Call (.Name x p) [.Constant (.str m) j p2] [] pos)) none pos') ρ G A := by
  obtain ⟨Wx, tk, hk⟩ := th.ex
  exact S1.of (ps_raise hc tk (L2.pmk_own PySem.F.excBase_ValueError T.q T.gC T.kC (raises_own T.eC T.tC) hg hdb)) fun σ H rs rg => hk _ _ _ _ _ rg h
/-- try: y = fn(..) except x: suite -/
theorem s_tryCall {b₀ : Stmt} {suite : List Stmt} {c : Value} (F : FnOk X.prog X.w X.K X.mg X.base (L2.CX X.prog X.w) k f fd ps (low ⟨X.prog, X.w, X.K⟩ sp)) (hr : Room k X.A) (hm : X.mg fn = some (.ref f)) (hk : PySem.W.keepIn X.K (.ref f) = true) (hb : Binds X.K fd ps []) (hcl : Names X x c) (hN : X.N.Nodup)
    (h : ∀ (pn : List (Addr × Obj)) (xe : Value → Shared → Prop), AQ (X.tr pn xe) (e :: es) ρ G fun ws G1 => sp ws G1 (fun w G2 => A.nx (ρ.set i (some w)) G2) fun u o G2 => PySem.W.exmOne X.K u c = some true ∧ ∀ (a : Addr) (oe : Obj) (pn : List (Addr × Obj)), SQ (X.suite a ((a, oe) :: pn)) (b₀ :: suite) ρ G2 A)
    (hs : X.stack = X.env :: X.outer := by rfl) (hf : X.env.frame = some X.env.locals := by rfl) (hy : X.N[i]? = some y := by rfl) (hx : Loc X.env.scope y := by first | exact .inl rfl | exact .inr rfl) (hfy : X.fn y = true ∨ X.env.scope.names.lookup y = some .local := by first | exact .inl rfl | exact .inr rfl) (hg : Gl X fn := by rfl)
    (hsw : swapsWith (.Call (.Name fn p) (e :: es) [] cpos) (some (.Name y p2)) spos.line X.env = pure false := by rfl) (hdb : (fn == ("__debug__" : Str)) = false := by decide) (he : starEach (e :: es) X.env = (false, eval e X.env) :: starEach es X.env := by rfl) (hpl : (backTo cpos (starEach es X.env)).any (·.1) = false := by rfl) :
    S1 X (.Try [.Assign [.Name y p2] (.Call (.Name fn p) (e :: es) [] cpos) spos] [.ExceptHandler (some (.Name x np)) none (b₀ :: suite) pos'] [] [] pos) ρ G A := by
  refine S1.of (ps_try_only (x := x) (c := c) (Wout := fun _ _ _ _ => False) (tb := fun Wx => tAsg (tCallS (low ⟨X.prog, X.w, X.K⟩ sp) (WE Wx) fun σ H Q => ∃ ρ G Ka, (∀ (pn : List (Addr × Obj)) (xe : Value → Shared → Prop), AQ (X.tr pn xe) (e :: es) ρ G Ka) ∧ RS H σ ρ ∧ RG (cc X) H G ∧ ∀ vs H', CA (cc X) H (e :: es).length Ka vs H' → Q vs H') (gName i))
    (ts := fun _ _ _ => fun D σ H => ∃ ρ G A, (∀ (a : Addr) (oe : Obj) (pn : List (Addr × Obj)), SQ (X.suite a ((a, oe) :: pn)) (b₀ :: suite) ρ G A) ∧ RS H σ ρ ∧ RG (cc X) H G ∧ DImp (CD (cc X) H A) D) hs hf hcl takes0 (fun Wx pn xe tk _ => ?_) fun a oe cls d pn _ _ => ?_) fun σ H rs rg => ?_
  · refine pss_one (ps_set hN hy hx (pe_callS (X := X.tr pn xe) F hr hg hm hk hb (fun σ => passAt tk σ) ⟨fun pos pins s σ H Q I ⟨ρ, G, Ka, h, rs, rg, q⟩ => ?_⟩ hdb he hpl) hsw hfy)
    exact thn ((h pn xe).run pos pins s σ H I rs rg) fun u s' ⟨v, H', I', r, q'⟩ => ⟨v, H', I', r, q v H' q'⟩
  · exact ⟨fun pins s σ H D I ⟨ρ, G, A, h, rs, rg, k⟩ => thn ((h a oe pn).run pins s σ H I rs rg) fun u s' q => SP.imp (D := CD (cc X) H A) q k⟩
  · refine ⟨ρ, G, _, h, rs, rg, fun vs H1 ⟨ws, G1, k1, r1, rg1, _, q⟩ => ⟨ws, G1, _, _, r1, rg1, q, fun v H2 ⟨w, G2, k2, r2, rg2, q2⟩ => ?_, fun u o H2 ⟨G2, k2, rg2, hm1, q2⟩ => ?_⟩⟩
    · exact ⟨_, G2, k1.trans k2, (rs.mono (k1.trans k2)).set i r2, rg2, q2⟩
    · exact ⟨true, hm1, fun _ a _ => ⟨ρ, G2, A, q2, rs.mono (k1.trans k2), rg2, CD.pre (k1.trans k2)⟩, fun z => Bool.noConfusion z⟩
end
end AL
namespace AL
open PySem PySem.Spec L2
open PyProof.Rows hiding St

/-! ### dicts whose keys are whole numbers and texts -/
def keyW : W → Option Key
  | .int i => some (.inl i)
  | .str x => some (.inr x)
  | _ => none
def wK : Key → W
  | .inl i => .int i
  | .inr x => .str x
theorem keyW_wK (k : Key) : keyW (wK k) = some k := by cases k <;> rfl
theorem wK_of {w : W} {k : Key} (h : keyW w = some k) : w = wK k := by
  cases w with
  | int i => cases h; rfl
  | str i => cases h; rfl
  | _ => cases h
theorem rv_key {H : Hp} {w : W} {v : V} {k : Key} (h : keyW w = some k) (r : RV H w v) : v = kV k := by
  cases w with
  | int i => cases h; exact r
  | str i => cases h; exact r
  | _ => cases h
theorem rv_wK {H : Hp} (k : Key) : RV H (wK k) (kV k) := by cases k <;> rfl
/-- a dict with such keys: tracked, or locked -/
def DkA (G : AH) (w : W) (kws : List (Key × W)) : Prop := match w with
  | .ref a => G a = some (.dK kws) ∨ G a = some (.zK kws)
  | _ => False
theorem DkA.rd {c : Ct} {H : Hp} {G : AH} {w : W} {kws : List (Key × W)} {u : V} (g : RG c H G) (h : DkA G w kws) (r : RV H w u) : ∃ a kvs, u = .ref a ∧ Rd H a (.dK kvs) ∧ KWV H kws kvs := by
  cases w with
  | ref a =>
    rcases h with h | h
    · obtain ⟨kvs, h1, h2⟩ := g a _ h; exact ⟨a, kvs, r, .inl h1, h2⟩
    · obtain ⟨o, kvs, h1, h2⟩ := g a _ h; exact ⟨a, kvs, r, .inr ⟨o, h1⟩, h2⟩
  | _ => exact h.elim
theorem KWV.val {κ : Type} [DecidableEq κ] {H : Hp} {kws : List (κ × W)} {kvs : List (κ × V)} (r : KWV H kws kvs) (k : κ) : match lk kws k with
    | some w => ∃ v, valV kvs k = some v ∧ RV H w v
    | none => valV kvs k = none := by
  unfold KWV at r
  induction r with
  | nil => rfl
  | @cons p q ps qs h t ih =>
    rw [lk_cons]
    by_cases e : p.1 = k
    · rw [if_pos e, valV_pos (by rw [← h.1]; exact e)]
      exact ⟨_, rfl, h.2⟩
    · rw [if_neg e, valV_neg (by rw [← h.1]; exact e)]
      exact ih
theorem KWV.isSome {κ : Type} [DecidableEq κ] {H : Hp} {kws : List (κ × W)} {kvs : List (κ × V)} (r : KWV H kws kvs) (k : κ) : (valV kvs k).isSome = (lk kws k).isSome := by
  have := r.val k
  cases e : lk kws k with
  | none => rw [e] at this; rw [show valV kvs k = none from this]; rfl
  | some w => rw [e] at this; obtain ⟨v, h, _⟩ := this; rw [h]; rfl
theorem any_isSome {κ : Type} [DecidableEq κ] (kvs : List (κ × V)) (k : κ) : (kvs.any fun kv => decide (kv.1 = k)) = (valV kvs k).isSome := by
  unfold valV
  induction kvs with
  | nil => rfl
  | cons p r ih =>
    rw [List.any_cons, List.find?_cons]
    by_cases e : p.1 = k
    · simp [e]
    · simp only [decide_eq_false e, Bool.false_or]; exact ih
theorem KWV.put {κ : Type} [DecidableEq κ] {H : Hp} {kws : List (κ × W)} {kvs : List (κ × V)} (r : KWV H kws kvs) (k : κ) {w : W} {v : V} (h : RV H w v) : KWV H (pk kws k w) (putK kvs k v) := by
  unfold pk putK
  rw [any_isSome, r.isSome k]
  split
  · unfold KWV at r ⊢
    rename_i z
    clear z
    induction r with
    | nil => exact .nil
    | @cons p q ps qs hh t ih =>
      rw [List.map_cons, List.map_cons]
      refine .cons ?_ ih
      by_cases e : p.1 = k
      · rw [if_pos e, if_pos (by rw [← hh.1]; exact e)]; exact ⟨hh.1, h⟩
      · rw [if_neg e, if_neg (by rw [← hh.1]; exact e)]; exact hh
  · unfold KWV at r ⊢
    rename_i z
    clear z
    induction r with
    | nil => exact .cons ⟨rfl, h⟩ .nil
    | cons hh t ih => exact .cons hh ih
theorem KWV.len {κ : Type} {H : Hp} {kws : List (κ × W)} {kvs : List (κ × V)} (r : KWV H kws kvs) : kws.length = kvs.length := Paired.length r
theorem KWV.get {κ : Type} {H : Hp} {kws : List (κ × W)} {kvs : List (κ × V)} (r : KWV H kws kvs) {i : Nat} {k : κ} {v : V} (h : kvs[i]? = some (k, v)) : ∃ w, kws[i]? = some (k, w) ∧ RV H w v := by
  unfold KWV at r
  induction r generalizing i with
  | nil => simp at h
  | @cons p q ps qs hh t ih =>
    cases i with
    | zero => simp at h; subst h; exact ⟨p.2, by rw [show p = (p.1, p.2) from rfl, hh.1]; rfl, hh.2⟩
    | succ i => obtain ⟨w, h1, h2⟩ := ih (by simpa using h); exact ⟨w, by simpa using h1, h2⟩
theorem DGet.of {H : Hp} {a : Addr} {kvs : List (Key × V)} (k : Key) (h : Rd H a (.dK kvs)) : DGet H a (kV k) (valV kvs k) := .inl ⟨kvs, k, h, rfl, rfl⟩
theorem IsD.of {H : Hp} {a : Addr} {kvs : List (Key × V)} (h : Rd H a (.dK kvs)) : IsD H a := .inl ⟨kvs, h⟩
theorem RG.mutD {c : Ct} {H : Hp} {G : AH} {a : Addr} {kvs kvs' : List (Key × V)} {kws' : List (Key × W)} (g : RG c H G) (h : H a = some (.dK kvs)) (r : KWV H kws' kvs') : Keep H (upd H a (.dK kvs')) ∧ RG c (upd H a (.dK kvs')) (aup G a (.dK kws')) := by
  have k : Keep H (upd H a (.dK kvs')) := Keep.mut h trivial
  exact ⟨k, g.put k (show RO c (upd H a (.dK kvs')) a (.dK kws') from ⟨kvs', upd_same, r.mono k⟩)⟩
section
variable {X : Cx} {a b o i e f : Expr} {pos apos cpos : Pos} {ρ : AS} {G : AH} {K : W → AH → Prop} {KB : Bool → AH → Prop}
theorem q_dnew (k : ∀ p, G p = none → K (.ref p) (aup G p (.dK []))) : EQ X (.Dict [] [] pos) ρ G K :=
  EQ.of pe_dnewK fun σ H rs rg => fun p hp => ⟨.ref p, _, Keep.new hp, rfl, rg.new hp (show RO _ _ p (.dK []) from ⟨[], upd_same, .nil⟩), k p (rg.free hp)⟩
/-- d[k] -/
def fDget : WR := fun x y G K => ∃ kws k w, DkA G x kws ∧ keyW y = some k ∧ lk kws k = some w ∧ K w G
theorem q_dget (hu : X.A.units + 64 < cLine) (h : EQ X o ρ G fun x G1 => EQ X i ρ G1 fun y G2 => fDget x y G2 K) (hs : NoSl i := by exact fun _ _ => rfl) : EQ X (.Subscript o i pos) ρ G K :=
  EQ.of (pe_dget (by omega) pe_E pe_E hs) fun σ H rs rg => ⟨ρ, G, _, h, rs, rg, fun u H1 ⟨x, G1, k1, rx, rg1, hb⟩ => ⟨ρ, G1, _, hb, rs.mono k1, rg1, fun v H2 ⟨y, G2, k2, ry, rg2, kws, k, w, hd, hk, hw, q⟩ => by
    obtain ⟨a, kvs, e, hr, kv⟩ := hd.rd rg2 (rx.mono k2)
    have := kv.val k
    rw [hw] at this
    obtain ⟨v', h1, h2⟩ := this
    refine ⟨a, v', e, ?_, (CW.stay h2 rg2 q).pre (k1.trans k2)⟩
    rw [rv_key hk ry, ← h1]
    exact DGet.of k hr⟩⟩
def fDinK (neg : Bool) : WR := fun x y G K => ∃ kws k, DkA G y kws ∧ keyW x = some k ∧ K (.bl (if neg then !(lk kws k).isSome else (lk kws k).isSome)) G
theorem q_din (hu : X.A.units + 64 < cLine) (h : EQ X a ρ G fun x G1 => EQ X b ρ G1 fun y G2 => fDinK false x y G2 K) (hm : behindInMarks .In b = false := by rfl) : EQ X (.Compare a [.In] [b] pos) ρ G K :=
  EQ.of (pe_cmp (pc_din (by omega) pe_E pe_E) hm) fun σ H rs rg => ⟨ρ, G, _, h, rs, rg, fun u H1 ⟨x, G1, k1, rx, rg1, hb⟩ => ⟨ρ, G1, _, hb, rs.mono k1, rg1, fun v H2 ⟨y, G2, k2, ry, rg2, kws, k, hd, hk, q⟩ => by
    obtain ⟨a, kvs, e, hr, kv⟩ := hd.rd rg2 ry
    refine ⟨a, _, e, by rw [rv_key hk rx]; exact DGet.of k hr, ?_⟩
    rw [kv.isSome k]
    exact (CW.stay (w := .bl _) rfl rg2 q).pre (k1.trans k2)⟩⟩
theorem q_dnin (hu : X.A.units + 64 < cLine) (h : EQ X a ρ G fun x G1 => EQ X b ρ G1 fun y G2 => fDinK true x y G2 K) (hm : behindInMarks .NotIn b = false := by rfl) : EQ X (.Compare a [.NotIn] [b] pos) ρ G K :=
  EQ.of (pe_cmp (pc_dnotin (by omega) pe_E pe_E) hm) fun σ H rs rg => ⟨ρ, G, _, h, rs, rg, fun u H1 ⟨x, G1, k1, rx, rg1, hb⟩ => ⟨ρ, G1, _, hb, rs.mono k1, rg1, fun v H2 ⟨y, G2, k2, ry, rg2, kws, k, hd, hk, q⟩ => by
    obtain ⟨a, kvs, e, hr, kv⟩ := hd.rd rg2 ry
    refine ⟨a, _, e, by rw [rv_key hk rx]; exact DGet.of k hr, ?_⟩
    rw [kv.isSome k]
    exact (CW.stay (w := .bl _) rfl rg2 q).pre (k1.trans k2)⟩⟩
theorem tst_CB {c : Ct} {H H' : Hp} {K : Bool → AH → Prop} {z : V} (h : CW c H (tst K) z H') : ∃ k, z = .bl k ∧ CB c H K k H' := tst_of h
theorem b_din (hu : X.A.units + 64 < cLine) (h : EQ X a ρ G fun x G1 => EQ X b ρ G1 fun y G2 => fDinK false x y G2 (tst KB)) (hm : behindInMarks .In b = false := by rfl) : BQ X (.Compare a [.In] [b] pos) ρ G KB :=
  BQ.of (pt_cmp (pc_din (by omega) pe_E pe_E) hm) fun σ H rs rg => ⟨ρ, G, _, h, rs, rg, fun u H1 ⟨x, G1, k1, rx, rg1, hb⟩ => ⟨ρ, G1, _, hb, rs.mono k1, rg1, fun v H2 ⟨y, G2, k2, ry, rg2, kws, k, hd, hk, q⟩ => by
    obtain ⟨a, kvs, e, hr, kv⟩ := hd.rd rg2 ry
    refine ⟨a, _, e, by rw [rv_key hk rx]; exact DGet.of k hr, ?_⟩
    rw [kv.isSome k]
    exact ⟨_, rfl, _, k1.trans k2, rg2, q⟩⟩⟩
theorem b_dnin (hu : X.A.units + 64 < cLine) (h : EQ X a ρ G fun x G1 => EQ X b ρ G1 fun y G2 => fDinK true x y G2 (tst KB)) (hm : behindInMarks .NotIn b = false := by rfl) : BQ X (.Compare a [.NotIn] [b] pos) ρ G KB :=
  BQ.of (pt_cmp (pc_dnotin (by omega) pe_E pe_E) hm) fun σ H rs rg => ⟨ρ, G, _, h, rs, rg, fun u H1 ⟨x, G1, k1, rx, rg1, hb⟩ => ⟨ρ, G1, _, hb, rs.mono k1, rg1, fun v H2 ⟨y, G2, k2, ry, rg2, kws, k, hd, hk, q⟩ => by
    obtain ⟨a, kvs, e, hr, kv⟩ := hd.rd rg2 ry
    refine ⟨a, _, e, by rw [rv_key hk rx]; exact DGet.of k hr, ?_⟩
    rw [kv.isSome k]
    exact ⟨_, rfl, _, k1.trans k2, rg2, q⟩⟩⟩
/-- d.get(k), d.get(k, x) -/
theorem q_dget1 (hu : X.A.units + 64 < cLine) (h : EQ X o ρ G fun x G1 => ∃ kws, DkA G1 x kws ∧ EQ X e ρ G1 fun y G2 => ∃ kws k, DkA G2 x kws ∧ keyW y = some k ∧ K ((lk kws k).getD .non) G2) (m : M1 X o "get" apos e cpos := by exact ⟨rfl, rfl, rfl, rfl⟩) : EQ X (.Call (.Attribute o "get" apos) [e] [] cpos) ρ G K :=
  EQ.of (pe_dget1 (by omega) pe_E pe_E m) fun σ H rs rg => ⟨ρ, G, _, h, rs, rg, fun u H1 ⟨x, G1, k1, rx, rg1, kws, hd, hb⟩ => by
    obtain ⟨a, kvs, e, hr, kv⟩ := hd.rd rg1 rx
    subst e
    refine ⟨a, rfl, IsD.of hr, ρ, G1, _, hb, rs.mono k1, rg1, fun v H2 ⟨y, G2, k2, ry, rg2, kws, k, hd, hk, q⟩ => ?_⟩
    obtain ⟨a2, kvs, e, hr, kv⟩ := hd.rd rg2 (rx.mono k2)
    cases e
    refine ⟨_, by rw [rv_key hk ry]; exact DGet.of k hr, ?_⟩
    have := kv.val k
    cases e : lk kws k with
    | none =>
      rw [e] at this q
      rw [show valV kvs k = none from this]
      exact (CW.stay (w := .non) rfl rg2 q).pre (k1.trans k2)
    | some w =>
      rw [e] at this q
      obtain ⟨v', h1, h2⟩ := this
      rw [h1]
      exact (CW.stay h2 rg2 q).pre (k1.trans k2)⟩
theorem q_dget2 (hu : X.A.units + 64 < cLine) (h : EQ X o ρ G fun x G1 => ∃ kws, DkA G1 x kws ∧ EQ X e ρ G1 fun y G2 => EQ X f ρ G2 fun z G3 => ∃ kws k, DkA G3 x kws ∧ keyW y = some k ∧ K ((lk kws k).getD z) G3) (m : M2 X o "get" apos e f cpos := by exact ⟨rfl, rfl, rfl, rfl⟩) : EQ X (.Call (.Attribute o "get" apos) [e, f] [] cpos) ρ G K :=
  EQ.of (pe_dget2 (by omega) pe_E pe_E pe_E m) fun σ H rs rg => ⟨ρ, G, _, h, rs, rg, fun u H1 ⟨x, G1, k1, rx, rg1, kws, hd, hb⟩ => by
    obtain ⟨a, kvs, e, hr, kv⟩ := hd.rd rg1 rx
    subst e
    refine ⟨a, rfl, IsD.of hr, ρ, G1, _, hb, rs.mono k1, rg1, fun v H2 ⟨y, G2, k2, ry, rg2, hb⟩ => ⟨ρ, G2, _, hb, rs.mono (k1.trans k2), rg2, fun v3 H3 ⟨z, G3, k3, rz, rg3, kws, k, hd, hk, q⟩ => ?_⟩⟩
    obtain ⟨a2, kvs, e, hr, kv⟩ := hd.rd rg3 (rx.mono (k2.trans k3))
    cases e
    refine ⟨_, by rw [rv_key hk (ry.mono k3)]; exact DGet.of k hr, ?_⟩
    have := kv.val k
    cases e : lk kws k with
    | none =>
      rw [e] at this q
      rw [show valV kvs k = none from this]
      exact (CW.stay rz rg3 q).pre ((k1.trans k2).trans k3)
    | some w =>
      rw [e] at this q
      obtain ⟨v', h1, h2⟩ := this
      rw [h1]
      exact (CW.stay h2 rg3 q).pre ((k1.trans k2).trans k3)⟩
/-- d.setdefault(k, x) -/
theorem q_dsetd (h : EQ X o ρ G fun x G1 => ∃ kws, DkA G1 x kws ∧ EQ X e ρ G1 fun y G2 => EQ X f ρ G2 fun z G3 => ∃ a kws k, x = .ref a ∧ G3 a = some (.dK kws) ∧ keyW y = some k ∧ kws.length < sizeLine ∧ (match lk kws k with
      | some w => K w G3
      | none => K z (aup G3 a (.dK (pk kws k z))))) (m : M2 X o "setdefault" apos e f cpos := by exact ⟨rfl, rfl, rfl, rfl⟩) : EQ X (.Call (.Attribute o "setdefault" apos) [e, f] [] cpos) ρ G K :=
  EQ.of (pe_dsetd pe_E pe_E pe_E m) fun σ H rs rg => ⟨ρ, G, _, h, rs, rg, fun u H1 ⟨x, G1, k1, rx, rg1, kws, hd, hb⟩ => by
    obtain ⟨a, kvs, e, hr, kv⟩ := hd.rd rg1 rx
    subst e
    refine ⟨a, rfl, IsD.of hr, ρ, G1, _, hb, rs.mono k1, rg1, fun v H2 ⟨y, G2, k2, ry, rg2, hb⟩ => ⟨ρ, G2, _, hb, rs.mono (k1.trans k2), rg2, fun v3 H3 ⟨z, G3, k3, rz, rg3, a2, kws2, k, e, hd2, hk, hl, q⟩ => ?_⟩⟩
    subst e
    cases (show V.ref a = .ref a2 from rx)
    clear hd hr kv
    obtain ⟨kvs, h1, h2⟩ := rg3 a _ hd2
    have vv := h2.val k
    refine ⟨kvs, k, h1, rv_key hk (ry.mono k3), by rw [← h2.len]; exact hl, fun v hv => ?_, fun hv => ?_⟩
    · cases e : lk kws2 k with
      | none => rw [e] at vv; rw [show valV kvs k = none from vv] at hv; cases hv
      | some w =>
        rw [e] at vv q
        obtain ⟨v', h1', h2'⟩ := vv
        rw [h1'] at hv; cases hv
        exact (CW.stay h2' rg3 q).pre ((k1.trans k2).trans k3)
    · cases e : lk kws2 k with
      | some w => rw [e] at vv; obtain ⟨v', h1', _⟩ := vv; rw [h1'] at hv; cases hv
      | none =>
        rw [e] at q
        obtain ⟨k4, rg4⟩ := rg3.mutD h1 (h2.put k rz)
        exact ⟨z, _, ((k1.trans k2).trans k3).trans k4, rz.mono k4, rg4, q⟩⟩
/-- d[k] = v -/
def fDput : W → W → W → AH → (AH → Prop) → Prop := fun x y w G K => match x with
  | .ref d => ∃ kws k, G d = some (.dK kws) ∧ keyW y = some k ∧ kws.length < sizeLine ∧ K (aup G d (.dK (pk kws k w)))
  | _ => False
theorem sr_dict {c : Ct} : SetR c rSetD fDput := by
  intro o i w u j v H G K Q ro ri rw' g h q
  cases o with
  | ref d =>
    cases (show u = .ref d from ro)
    obtain ⟨kws, k, hd, hk, hl, kk⟩ := h
    obtain ⟨kvs, h1, h2⟩ := g d _ hd
    obtain ⟨k4, rg4⟩ := g.mutD h1 (h2.put k rw')
    exact ⟨d, _, rfl, .inl ⟨kvs, k, h1, rv_key hk ri, by rw [← h2.len]; exact hl, rfl⟩, q _ _ k4 rg4 kk⟩
  | _ => exact h.elim
theorem g_dput {w : W} {KS : AS → AH → Prop} (hu : X.A.units + 64 < cLine) (h : EQ X o ρ G fun x G1 => EQ X i ρ G1 fun y G2 => fDput x y w G2 (KS ρ))
    (ha : ∀ v, assign (.Subscript o i pos) X.env v = (do
      let ov ← holding [v] (eval o X.env)
      let iv ← holding [v, ov] (eval i X.env)
      standAt pos
      holding [v, ov, iv] (setItem ov iv v)
      release [v, ov, iv] []) := by intro _; rfl) : GQ X (.Subscript o i pos) w ρ G KS := g_sub (set_dict (by omega)) sr_dict h ha
/-- a dict that is only read from now on -/
theorem s_lockK {es : List Stmt} {A : AEnds} (d : Addr) {kws : List (Key × W)} (hd : G d = some (.dK kws)) (h : SQ X es ρ (aup G d (.zK kws)) A) : SQ X es ρ G A := ⟨fun pins s σ H I rs rg => by
  obtain ⟨kvs, h1, h2⟩ := rg d _ hd
  obtain ⟨od, I2⟩ := I.lock h1 trivial
  have k : Keep H (upd H d (.frz od (.dK kvs))) := Keep.mut h1 trivial
  exact thn (h.run pins s σ _ I2 (rs.mono k) (rg.put k (show RO _ _ d (.zK kws) from ⟨od, kvs, upd_same, h2.mono k⟩))) fun u s' q => SP.imp (D := CD (cc X) _ A) q (CD.pre k)⟩
theorem s_lockN {es : List Stmt} {A : AEnds} (d : Addr) {kws : List (W × W)} (hd : G d = some (.dN kws)) (h : SQ X es ρ (aup G d (.zN kws)) A) : SQ X es ρ G A := ⟨fun pins s σ H I rs rg => by
  obtain ⟨kvs, h1, h2⟩ := rg d _ hd
  obtain ⟨od, I2⟩ := I.lock h1 trivial
  have k : Keep H (upd H d (.frz od (.ext (rawN X.prog X.w d kvs)))) := Keep.mut h1 trivial
  exact thn (h.run pins s σ _ I2 (rs.mono k) (rg.put k (show RO _ _ d (.zN kws) from ⟨od, kvs, upd_same, Paired.mapP h2 fun _ _ z => ⟨z.1, z.2.1, z.2.2.1, z.2.2.2.1.mono k, z.2.2.2.2.mono k⟩⟩))) fun u s' q => SP.imp (D := CD (cc X) _ A) q (CD.pre k)⟩
/-- the same of an expression's value -/
def lockK (K : W → AH → Prop) : W → AH → Prop := fun v G => match v with
  | .ref d => ∃ kws, G d = some (.dK kws) ∧ K v (aup G d (.zK kws))
  | _ => False
theorem q_lockK (h : EQ X e ρ G (lockK K)) : EQ X e ρ G K := ⟨fun pins s σ H I rs rg => thn (h.run pins s σ H I rs rg) fun u s' ⟨v, H', I', r, w, G', k, rw', rg', q⟩ => by
  cases w with
  | ref p =>
    obtain ⟨kws, hp, q⟩ := q
    obtain ⟨kvs, h1, h2⟩ := rg' p _ hp
    obtain ⟨od, I2⟩ := I'.lock h1 trivial
    have k2 : Keep H' (upd H' p (.frz od (.dK kvs))) := Keep.mut h1 trivial
    exact ⟨v, _, I2, r, .ref p, _, k.trans k2, rw', rg'.put k2 (show RO _ _ p (.zK kws) from ⟨od, kvs, upd_same, h2.mono k2⟩), q⟩
  | _ => exact q.elim⟩
section
variable {tg iter : Expr} {R : IK} {elts : List Expr} {kk : Nat} {tpos : Pos}
theorem i_keys (h : EQ X iter ρ G fun w G1 => ∃ d kws, w = .ref d ∧ G1 d = some (.zK kws) ∧ R (kws.map fun kv => wK kv.1) (fun G => G d = some (.zK kws)) G1) : IQ X tg iter ρ G R :=
  IQ.of (pi_keys pe_E) fun σ H rs rg => ⟨ρ, G, _, h, rs, rg, fun u H1 ⟨w, G1, k1, rx, rg1, d, kws, e, hd, q⟩ => by
    subst e
    obtain ⟨o, kvs, h1, h2⟩ := rg1 d _ hd
    refine ⟨d, o, rx, .inl ⟨kvs, h1, _, _, G1, k1, rg1, ⟨fun i H2 G2 k2 rg2 o2 hi => ?_, fun i H2 G2 v H3 k2 rg2 o2 hi y => ?_, fun i H2 G2 k2 rg2 o2 hi => ?_⟩, q⟩⟩
    · rw [List.length_map, h2.len] at hi
      exact ⟨k2.f _ _ _ h1, hi⟩
    · obtain ⟨e, k, v', hk, e2⟩ := y
      subst e e2
      obtain ⟨w, hw, _⟩ := h2.get hk
      exact ⟨Keep.refl, rg2, wK k, by rw [List.getElem?_map, hw]; rfl, rv_wK k⟩
    · rw [List.length_map, h2.len] at hi
      exact ⟨k2.f _ _ _ h1, hi⟩⟩
theorem i_values (h : EQ X e ρ G fun w G1 => ∃ d kws, w = .ref d ∧ G1 d = some (.zK kws) ∧ R (kws.map (·.2)) (fun G => G d = some (.zK kws)) G1) (hbase : attributeBase e "values" X.env (eval e X.env) = eval e X.env := by rfl) (hline : (apos.endLine == cpos.line) = true := by rfl) : IQ X tg (.Call (.Attribute e "values" apos) [] [] cpos) ρ G R :=
  IQ.of (pi_values pe_E hbase hline) fun σ H rs rg => ⟨ρ, G, _, h, rs, rg, fun u H1 ⟨w, G1, k1, rx, rg1, d, kws, e, hd, q⟩ => by
    subst e
    obtain ⟨o, kvs, h1, h2⟩ := rg1 d _ hd
    refine ⟨d, o, kvs, rx, h1, _, _, G1, k1, rg1, ⟨fun i H2 G2 k2 rg2 o2 hi => ?_, fun i H2 G2 v H3 k2 rg2 o2 hi y => ?_, fun i H2 G2 k2 rg2 o2 hi => ?_⟩, q⟩
    · rw [List.length_map, h2.len] at hi
      exact ⟨k2.f _ _ _ h1, hi⟩
    · obtain ⟨e, k, hk⟩ := y
      subst e
      obtain ⟨w, hw, r⟩ := h2.get hk
      exact ⟨Keep.refl, rg2, w, by rw [List.getElem?_map, hw]; rfl, r.mono k2⟩
    · rw [List.length_map, h2.len] at hi
      exact ⟨k2.f _ _ _ h1, hi⟩⟩
theorem i_items (h : EQ X e ρ G fun w G1 => ∃ d kws, w = .ref d ∧ G1 d = some (.zK kws) ∧ R (kws.map fun kv => .tup [wK kv.1, kv.2]) (fun G => G d = some (.zK kws)) G1) (hbase : attributeBase e "items" X.env (eval e X.env) = eval e X.env := by rfl) (hline : (apos.endLine == cpos.line) = true := by rfl) : IQ X (.Tuple elts kk tpos) (.Call (.Attribute e "items" apos) [] [] cpos) ρ G R :=
  IQ.of (pi_items pe_E hbase hline) fun σ H rs rg => ⟨ρ, G, _, h, rs, rg, fun u H1 ⟨w, G1, k1, rx, rg1, d, kws, e, hd, q⟩ => by
    subst e
    obtain ⟨o, kvs, h1, h2⟩ := rg1 d _ hd
    refine ⟨d, o, kvs, rx, h1, _, _, G1, k1, rg1, ⟨fun i H2 G2 k2 rg2 o2 hi => ?_, fun i H2 G2 v H3 k2 rg2 o2 hi y => ?_, fun i H2 G2 k2 rg2 o2 hi => ?_⟩, q⟩
    · rw [List.length_map, h2.len] at hi
      exact ⟨k2.f _ _ _ h1, hi⟩
    · obtain ⟨T, k, v', hk, e2, hT, e3⟩ := y
      subst e2 e3
      obtain ⟨w, hw, r⟩ := h2.get hk
      exact ⟨Keep.new hT, rg2.tup hT, .tup [wK k, w], by rw [List.getElem?_map, hw]; rfl, T, _, rfl, upd_same, .cons (rv_wK k) (.cons ((r.mono k2).mono (Keep.new hT)) RVs.nil)⟩
    · rw [List.length_map, h2.len] at hi
      exact ⟨k2.f _ _ _ h1, hi⟩⟩
end
end
end AL
namespace AL
open PySem PySem.Spec L2
open PyProof.Rows hiding St

section
variable {X : Cx} {a b o i e f : Expr} {es : List Expr} {p pos apos cpos : Pos} {ρ : AS} {G : AH} {K : W → AH → Prop} {KB : Bool → AH → Prop}
/-! ### names of types -/
theorem q_ty {x : Str} {n : String} (hm : X.mg x = none) (hv : bootBuiltins x = some (.type n)) (k : K (.ty n) G) (hg : Gl X x := by rfl) (hn : x ≠ "__name__" := by decide) (hd : (x == ("__debug__" : Str)) = false := by decide) : EQ X (.Name x pos) ρ G K :=
  EQ.of (pe_bltn (v := .ty n) hg hm hv rfl hn hd) fun σ H rs rg => CW.stay (w := .ty n) rfl rg k
/-- a thing of the module by its address -/
theorem q_gref {x : Str} {c : Addr} (hm : X.mg x = some (.ref c)) (k : K (.ref c) G) (hg : Gl X x := by rfl) (hd : (x == ("__debug__" : Str)) = false := by decide) : EQ X (.Name x pos) ρ G K :=
  EQ.of (pe_glob (v := .ref c) hg hm rfl hd) fun σ H rs rg => CW.stay (w := .ref c) rfl rg k
/-! ### isinstance -/
def tyO : Option AO → Option String
  | some (.lst _) => some "list"
  | some (.dK _) => some "dict"
  | some (.zK _) => some "dict"
  | _ => none
/-- the type of a value -/
def tyW (G : AH) : W → Option String
  | .non => some "NoneType"
  | .bl _ => some "bool"
  | .int _ => some "int"
  | .str _ => some "str"
  | .tup _ => some "tuple"
  | .lst _ => some "list"
  | .ty _ => none
  | .ref a => tyO (G a)
theorem tyX_of {c : Ct} {H : Hp} {G : AH} {w : W} {u : V} {n : String} (g : RG c H G) (r : RV H w u) (h : tyW G w = some n) : TyX c.K H u (.type n) := by
  cases w with
  | non => cases h; cases (show u = .non from r); exact .base .non
  | bl b => cases h; cases (show u = .bl b from r); exact .base (.bl b)
  | int b => cases h; cases (show u = .int b from r); exact .base (.int b)
  | str b => cases h; cases (show u = .str b from r); exact .base (.str b)
  | ty b => cases h
  | tup ws => cases h; obtain ⟨a, vs, e, ha, _⟩ := r; subst e; exact .base (.tup ha)
  | lst ws => cases h; obtain ⟨a, vs, e, ⟨o, ha⟩, _⟩ := r; subst e; exact .base (.frz ha)
  | ref a =>
    cases (show u = .ref a from r)
    have h : tyO (G a) = some n := h
    unfold tyO at h
    split at h
    · rename_i ha; cases h; obtain ⟨vs, h1, _⟩ := g a _ ha; exact .base (.lst h1)
    · rename_i ha; cases h; obtain ⟨vs, h1, _⟩ := g a _ ha; exact .base (.dK h1)
    · rename_i ha; cases h; obtain ⟨o, vs, h1, _⟩ := g a _ ha; exact .fDict h1
    · cases h
def fIsi (c : Ct) : CRW := fun ws G K => match ws with
  | [x, .ty m] => ∃ n b, tyW G x = some n ∧ PySem.W.kitOne c.K (.type n) (.type m) = some b ∧ K (.bl b) G
  | [x, .tup [.ty m, .ty m']] => ∃ n b, tyW G x = some n ∧ PySem.W.kitAny c.K (.type n) [.type m, .type m'] = some b ∧ K (.bl b) G
  | _ => False
theorem cr_isi {c : Ct} : CR' c (fun xs H Q => rIsi c.K xs H Q ∨ rIsiT c.K xs H Q) (fIsi c) := by
  intro ws vs H G K Q r g h q
  unfold fIsi at h
  split at h
  · obtain ⟨n, b, h1, h2, k⟩ := h
    obtain ⟨v, v', rfl, hv, hv'⟩ := rv2 r
    cases (show v' = .ty _ from hv')
    exact .inl ⟨v, _, _, _, b, rfl, .ty _, tyX_of g hv h1, h2, q _ _ (.stay (w := .bl b) rfl g k)⟩
  · obtain ⟨n, b, h1, h2, k⟩ := h
    obtain ⟨v, v', rfl, hv, a, us, rfl, ha, rr⟩ := rv2 r
    obtain ⟨c1, c2, rfl, hc1, hc2⟩ := rv2 rr
    cases (show c1 = .ty _ from hc1)
    cases (show c2 = .ty _ from hc2)
    exact .inr ⟨v, a, _, _, _, b, rfl, ha, .cons (.ty _) (.cons (.ty _) .nil), tyX_of g hv h1, h2, q _ _ (.stay (w := .bl b) rfl g k)⟩
  · exact h.elim
theorem call_or {X : Cx} {u : Value} {r r' : List V → Hp → VK → Prop} (h : CallR X u r) (h' : CallR X u r') : CallR X u (fun xs H Q => r xs H Q ∨ r' xs H Q) := by
  intro pins s σ H vs us Q I rv q
  rcases q with q | q
  · exact h pins s σ H vs us Q I rv q
  · exact h' pins s σ H vs us Q I rv q
theorem q_isi (hm : X.mg "isinstance" = none) (h : AQ X (e :: es) ρ G fun ws G1 => fIsi (cc X) ws G1 K) (hg : Gl X "isinstance" := by rfl)
    (he : starEach (e :: es) X.env = (false, eval e X.env) :: starEach es X.env := by rfl) (hpl : (backTo pos (starEach es X.env)).any (·.1) = false := by rfl) : EQ X (.Call (.Name "isinstance" p) (e :: es) [] pos) ρ G K :=
  q_callB (call_or call_isi call_isiT) cr_isi hm (by decide +kernel) h hg (by decide) (by decide) he hpl
/-! ### sorted, min, max of lists of whole numbers -/
def fSortI : CRW := fun ws G K => match ws with
  | [w] => ∃ ns : List Int, LsA G w (ns.map W.int) ∧ ∀ (ms : List Int) (p : Addr), ms.Perm ns → ms.Pairwise (· ≤ ·) → G p = none → K (.ref p) (aup G p (.lst (ms.map W.int)))
  | _ => False
theorem cr_srt {c : Ct} : CR' c (rSortedI c.K) fSortI := by
  intro ws vs H G K Q r g h q
  match ws, h with
  | [w], ⟨ns, ha, k⟩ =>
    obtain ⟨v, rfl, hv⟩ := rv1 r
    obtain ⟨a, us, rfl, hu, rr⟩ := ha.sq g hv
    cases rr.ints_eq
    exact ⟨a, ns, rfl, hu, fun ms p h1 h2 hp => q _ _ ⟨.ref p, _, Keep.new hp, rfl, g.newL hp (RVs.ints ms), k ms p h1 h2 (g.free hp)⟩⟩
theorem q_sorted (hm : X.mg "sorted" = none) (h : AQ X (e :: es) ρ G fun ws G1 => fSortI ws G1 K) (hg : Gl X "sorted" := by rfl)
    (he : starEach (e :: es) X.env = (false, eval e X.env) :: starEach es X.env := by rfl) (hpl : (backTo pos (starEach es X.env)).any (·.1) = false := by rfl) : EQ X (.Call (.Name "sorted" p) (e :: es) [] pos) ρ G K :=
  q_callB cr_sortedI cr_srt hm (by decide +kernel) h hg (by decide) (by decide) he hpl
def fMinL : CRW := fun ws G K => match ws with
  | [w] => ∃ ns : List Int, LsA G w (ns.map W.int) ∧ 0 < ns.length ∧ ∀ m, m ∈ ns → (∀ y, y ∈ ns → m ≤ y) → K (.int m) G
  | _ => False
def fMaxL : CRW := fun ws G K => match ws with
  | [w] => ∃ ns : List Int, LsA G w (ns.map W.int) ∧ 0 < ns.length ∧ ∀ m, m ∈ ns → (∀ y, y ∈ ns → y ≤ m) → K (.int m) G
  | _ => False
theorem cr_minL {c : Ct} : CR' c (rMin c.K) fMinL := by
  intro ws vs H G K Q r g h q
  match ws, h with
  | [w], ⟨ns, ha, hl, k⟩ =>
    obtain ⟨v, rfl, hv⟩ := rv1 r
    obtain ⟨a, us, rfl, hu, rr⟩ := ha.sq g hv
    cases rr.ints_eq
    exact ⟨a, ns, rfl, hu, hl, fun m h1 h2 => q _ _ (.stay (w := .int m) rfl g (k m h1 h2))⟩
theorem cr_maxL {c : Ct} : CR' c (rMax c.K) fMaxL := by
  intro ws vs H G K Q r g h q
  match ws, h with
  | [w], ⟨ns, ha, hl, k⟩ =>
    obtain ⟨v, rfl, hv⟩ := rv1 r
    obtain ⟨a, us, rfl, hu, rr⟩ := ha.sq g hv
    cases rr.ints_eq
    exact ⟨a, ns, rfl, hu, hl, fun m h1 h2 => q _ _ (.stay (w := .int m) rfl g (k m h1 h2))⟩
theorem q_minL (hm : X.mg "min" = none) (h : AQ X [e] ρ G fun ws G1 => fMinL ws G1 K) (hc : X.calm = true := by rfl) (hg : Gl X "min" := by rfl)
    (he : starEach [e] X.env = (false, eval e X.env) :: starEach [] X.env := by rfl) (hpl : (backTo pos (starEach [] X.env)).any (·.1) = false := by rfl) : EQ X (.Call (.Name "min" p) [e] [] pos) ρ G K :=
  q_callB (cr_min hc) cr_minL hm (by decide +kernel) h hg (by decide) (by decide) he hpl
theorem q_maxL (hm : X.mg "max" = none) (h : AQ X [e] ρ G fun ws G1 => fMaxL ws G1 K) (hc : X.calm = true := by rfl) (hg : Gl X "max" := by rfl)
    (he : starEach [e] X.env = (false, eval e X.env) :: starEach [] X.env := by rfl) (hpl : (backTo pos (starEach [] X.env)).any (·.1) = false := by rfl) : EQ X (.Call (.Name "max" p) [e] [] pos) ρ G K :=
  q_callB (cr_max hc) cr_maxL hm (by decide +kernel) h hg (by decide) (by decide) he hpl
/-! ### more methods of lists -/
def mPop (a : Addr) (ws : List W) (G : AH) (K : W → AH → Prop) : Prop := match ws with
  | [] => ∃ xs w, G a = some (.lst xs) ∧ xs[xs.length - 1]? = some w ∧ K w (aup G a (.lst xs.dropLast))
  | _ => False
theorem RVs.dropLast {H : Hp} {ws : List W} {vs : List V} (r : RVs H ws vs) : RVs H ws.dropLast vs.dropLast := by
  rw [List.dropLast_eq_take, List.dropLast_eq_take, ← r.length]; exact r.take _
theorem mr_pop {c : Ct} : MR c rPop mPop := by
  intro a ws vs H G K Q r g h q
  match ws, h with
  | [], ⟨xs, w, ha, hl, k⟩ =>
    cases (show vs = [] from r)
    obtain ⟨us, hu, rr⟩ := g.lst ha
    obtain ⟨v, h1, h2⟩ := rr.get hl
    obtain ⟨k3, g3⟩ := g.mutL hu rr.dropLast
    exact ⟨a, us, v, rfl, rfl, hu, by rw [← rr.length]; exact h1, q _ _ ⟨w, _, k3, h2.mono k3, g3, k⟩⟩
theorem q_pop (h : EQ X o ρ G fun x G1 => ∃ a xs, x = .ref a ∧ G1 a = some (.lst xs) ∧ mPop a [] G1 K)
    (hbase : attributeBase o "pop" X.env (eval o X.env) = eval o X.env := by rfl) (hline : (apos.endLine == cpos.line) = true := by rfl) : EQ X (.Call (.Attribute o "pop" apos) [] [] cpos) ρ G K :=
  q_lm0 PySem.F.slot_list_pop PySem.F.type_list_pop mt_pop mr_pop h hbase hline
def rExtR : V → List V → Hp → VK → Prop := fun x vs H Q => ∃ l b xs zs, x = .ref l ∧ vs = [.ref b] ∧ H l = some (.lst xs) ∧ Rd H b (.lst zs) ∧ xs.length + zs.length ≤ sizeLine ∧ Q .non (upd H l (.lst (xs ++ zs)))
theorem mt_extR : MtM X "list.extend" rExtR := by
  intro pins s σ H x vs v us Q I rx rv h
  obtain ⟨l, b, xs, zs, rfl, rfl, hH, hB, hz, q⟩ := h
  cases rx
  obtain ⟨u, rfl, ru⟩ := rv.one
  cases ru
  obtain ⟨z, its, n, r, hl, e⟩ := I.lstM hH
  obtain ⟨z2, its2, n2, r2, hl2, e2⟩ := I.lstR hB
  have hsz : its.toArray.size + its2.toArray.size ≤ sizeLine := by rw [List.size_toArray, List.size_toArray]; omega
  have hlong : ¬ (!its.toArray.isEmpty && Builtin.List.listTooLong (its.toArray.size + its2.toArray.size)) = true := by
    rw [notLongL hsz, Bool.and_false]
    exact Bool.false_ne_true
  refine call_meets F.slot_list_extend ⟨_, e, rfl⟩ F.entry_list_extend (F.args_list_extend_2 _ _)
    (AutoSeq1.list_extend_list_list_0 l its.toArray n b its2.toArray n2 hlong (by rw [List.size_toArray]; omega) (by omega)) ⟨e, e2, ?_⟩
  refine ⟨.non, _, I.lset (its' := its ++ its2) hH e (by simp) (r.append r2) ?_, rfl, q⟩
  rw [List.length_append]
  omega
def mExt (a : Addr) (ws : List W) (G : AH) (K : W → AH → Prop) : Prop := match ws with
  | [w] => ∃ xs ys, G a = some (.lst xs) ∧ LsA G w ys ∧ xs.length + ys.length ≤ sizeLine ∧ K .non (aup G a (.lst (xs ++ ys)))
  | _ => False
theorem mr_ext {c : Ct} : MR c rExtR mExt := by
  intro a ws vs H G K Q r g h q
  match ws, h with
  | [w], ⟨xs, ys, ha, hy, hl, k⟩ =>
    obtain ⟨v, rfl, hv⟩ := rv1 r
    obtain ⟨us, hu, rr⟩ := g.lst ha
    obtain ⟨b, zs, rfl, hb, r2⟩ := hy.rd g hv
    obtain ⟨k3, g3⟩ := g.mutL hu (rr.append r2)
    exact ⟨a, b, us, zs, rfl, rfl, hu, hb, by rw [← rr.length, ← r2.length]; exact hl, q _ _ ⟨.non, _, k3, rfl, g3, k⟩⟩
theorem q_extend (h : EQ X o ρ G fun x G1 => ∃ a xs, x = .ref a ∧ G1 a = some (.lst xs) ∧ AQ X (e :: es) ρ G1 fun ws G2 => mExt a ws G2 K)
    (hbase : attributeBase o "extend" X.env (eval o X.env) = eval o X.env := by rfl)
    (hfew : ((backTo cpos (starEach (e :: es) X.env)).all (fun x => !x.1) && (backToKw cpos (keywordEach [] X.env)).all (fun x => x.1.isSome)
      && decide ((e :: es).length + ([] : List Keyword).length + (if ([] : List Keyword).isEmpty then 0 else 1) < 30)) = true := by rfl)
    (hline : (apos.endLine == cpos.line) = true := by rfl) (hs : starEach (e :: es) X.env = (false, eval e X.env) :: starEach es X.env := by rfl) (hplain : (backTo cpos (starEach es X.env)).any (·.1) = false := by rfl) :
    EQ X (.Call (.Attribute o "extend" apos) (e :: es) [] cpos) ρ G K := q_lm PySem.F.slot_list_extend PySem.F.type_list_extend mt_extR mr_ext h hbase hfew hline hs hplain
def mRev (a : Addr) (ws : List W) (G : AH) (K : W → AH → Prop) : Prop := match ws with
  | [] => ∃ xs, G a = some (.lst xs) ∧ K .non (aup G a (.lst xs.reverse))
  | _ => False
theorem RVs.reverse {H : Hp} : ∀ {ws : List W} {vs : List V}, RVs H ws vs → RVs H ws.reverse vs.reverse
  | [], _, e => by cases (show _ = ([] : List V) from e); exact RVs.nil
  | _ :: _, _, ⟨_, _, e, h, t⟩ => by subst e; rw [List.reverse_cons, List.reverse_cons]; exact (RVs.reverse t).append (.cons h RVs.nil)
theorem mr_rev {c : Ct} : MR c rReverse mRev := by
  intro a ws vs H G K Q r g h q
  match ws, h with
  | [], ⟨xs, ha, k⟩ =>
    cases (show vs = [] from r)
    obtain ⟨us, hu, rr⟩ := g.lst ha
    obtain ⟨k3, g3⟩ := g.mutL hu rr.reverse
    exact ⟨a, us, rfl, rfl, hu, q _ _ ⟨.non, _, k3, rfl, g3, k⟩⟩
theorem q_reverse (h : EQ X o ρ G fun x G1 => ∃ a xs, x = .ref a ∧ G1 a = some (.lst xs) ∧ mRev a [] G1 K)
    (hbase : attributeBase o "reverse" X.env (eval o X.env) = eval o X.env := by rfl) (hline : (apos.endLine == cpos.line) = true := by rfl) : EQ X (.Call (.Attribute o "reverse" apos) [] [] cpos) ρ G K :=
  q_lm0 PySem.F.slot_list_reverse PySem.F.type_list_reverse mt_reverse mr_rev h hbase hline
/-! ### methods of texts -/
def SR (c : Ct) (r : V → List V → Hp → VK → Prop) (R : Str → List W → AH → (W → AH → Prop) → Prop) : Prop := ∀ x ws vs H G K (Q : VK), RVs H ws vs → RG c H G → R x ws G K → (∀ z H', CW c H K z H' → Q z H') → r (.str x) vs H Q
theorem q_sm {name : Str} {id : String} {r : V → List V → Hp → VK → Prop} {R : Str → List W → AH → (W → AH → Prop) → Prop} (slot : Slot "str" name id) (hty : typeOf (.builtin id) = pure (.type "method_descriptor")) (hm : MtR X id r) (rr : SR (cc X) r R)
    (h : EQ X o ρ G fun x G1 => ∃ z, x = .str z ∧ AQ X (e :: es) ρ G1 fun ws G2 => R z ws G2 K)
    (hbase : attributeBase o name X.env (eval o X.env) = eval o X.env := by rfl)
    (hfew : ((backTo cpos (starEach (e :: es) X.env)).all (fun x => !x.1) && (backToKw cpos (keywordEach [] X.env)).all (fun x => x.1.isSome)
      && decide ((e :: es).length + ([] : List Keyword).length + (if ([] : List Keyword).isEmpty then 0 else 1) < 30)) = true := by rfl)
    (hline : (apos.endLine == cpos.line) = true := by rfl) (hs : starEach (e :: es) X.env = (false, eval e X.env) :: starEach es X.env := by rfl) (hplain : (backTo cpos (starEach es X.env)).any (·.1) = false := by rfl) :
    EQ X (.Call (.Attribute o name apos) (e :: es) [] cpos) ρ G K :=
  EQ.of (pe_bm PySem.F.plainAttrs_str slot hty hm pe_E pa_A hbase hfew hline hs hplain) fun σ H rs rg => ⟨ρ, G, _, h, rs, rg, fun u H1 ⟨x, G1, k1, rx, rg1, z, ex, q⟩ => by
    subst ex
    cases (show u = .str z from rx)
    exact ⟨rfl, ρ, G1, _, q, rs.mono k1, rg1, fun vs H2 ⟨ws, G2, k2, r2, rg2, _, q2⟩ => rr z ws vs H2 G2 K _ r2 rg2 q2 fun z H' y => y.pre (k1.trans k2)⟩⟩
def mJoin (x : Str) (ws : List W) (G : AH) (K : W → AH → Prop) : Prop := match ws with
  | [w] => ∃ ys : List Str, LsA G w (ys.map W.str) ∧ (ys.map (·.length)).sum + ys.length * x.length ≤ 16777216 ∧ K (.str (Txt.join x ys)) G
  | _ => False
theorem sr_join {c : Ct} : SR c (fun x xs H Q => ∃ a p, ∃ ys : List Str, x = .str a ∧ xs = [.ref p] ∧ (SqL c.K H p (ys.map V.str) ∨ SqT c.K H p (ys.map V.str)) ∧ (ys.map (·.length)).sum + ys.length * a.length ≤ 16777216 ∧ Q (.str (Txt.join a ys)) H) mJoin := by
  intro x ws vs H G K Q r g h q
  match ws, h with
  | [w], ⟨ys, ha, hl, k⟩ =>
    obtain ⟨v, rfl, hv⟩ := rv1 r
    obtain ⟨a, us, rfl, hu, rr⟩ := ha.sq g hv
    cases rr.strs_eq
    exact ⟨x, a, ys, rfl, rfl, .inl hu, hl, q _ _ (.stay (w := .str _) rfl g k)⟩
theorem q_join (h : EQ X o ρ G fun x G1 => ∃ z, x = .str z ∧ AQ X (e :: es) ρ G1 fun ws G2 => mJoin z ws G2 K)
    (hbase : attributeBase o "join" X.env (eval o X.env) = eval o X.env := by rfl)
    (hfew : ((backTo cpos (starEach (e :: es) X.env)).all (fun x => !x.1) && (backToKw cpos (keywordEach [] X.env)).all (fun x => x.1.isSome)
      && decide ((e :: es).length + ([] : List Keyword).length + (if ([] : List Keyword).isEmpty then 0 else 1) < 30)) = true := by rfl)
    (hline : (apos.endLine == cpos.line) = true := by rfl) (hs : starEach (e :: es) X.env = (false, eval e X.env) :: starEach es X.env := by rfl) (hplain : (backTo cpos (starEach es X.env)).any (·.1) = false := by rfl) :
    EQ X (.Call (.Attribute o "join" apos) (e :: es) [] cpos) ρ G K := q_sm PySem.F.slot_str_join PySem.F.type_str_join mt_join sr_join h hbase hfew hline hs hplain
end
end AL
namespace AL
open PySem PySem.Spec L2
open PyProof.Rows hiding St
/-! ### lists that are read, whichever way they are held -/
section
variable {G : AH} {w x : W} {xs : List W} {K : W → AH → Prop}
theorem LsA.new {p : Addr} {o : AO} (h : LsA G w xs) (hp : G p = none) : LsA (aup G p o) w xs := by
  cases w with
  | lst ys => exact h
  | ref a => exact aup_new hp h
  | _ => exact h.elim
theorem LsA.old {p : Addr} {o : AO} (h : LsA G w xs) (hp : w ≠ .ref p) : LsA (aup G p o) w xs := by
  cases w with
  | lst ys => exact h
  | ref a => exact aup_old (fun e => hp (by rw [e])) h
  | _ => exact h.elim
theorem LsA.sub {G' : AH} (h : LsA G w xs) (s : Sub G G') : LsA G' w xs := by
  cases w with
  | lst ys => exact h
  | ref a => exact s _ _ h
  | _ => exact h.elim
theorem LsA.ne {p : Addr} (h : LsA G w xs) (hp : G p = none) : w ≠ .ref p := fun e => by
  subst e
  rw [show G p = some (.lst xs) from h] at hp; cases hp
theorem LsA.nd {p : Addr} {o : AO} (h : LsA G w xs) (hp : G p = some o) (hn : ∀ l, o ≠ .lst l) : w ≠ .ref p := fun e => by
  subst e
  rw [show G p = some (.lst xs) from h] at hp; cases hp; exact hn _ rfl
theorem DkA.new {p : Addr} {o : AO} {kws : List (Key × W)} (h : DkA G w kws) (hp : G p = none) : DkA (aup G p o) w kws := by
  cases w with
  | ref a => exact h.elim (fun h => .inl (aup_new hp h)) fun h => .inr (aup_new hp h)
  | _ => exact h.elim
theorem DkA.old {p : Addr} {o : AO} {kws : List (Key × W)} (h : DkA G w kws) (hp : w ≠ .ref p) : DkA (aup G p o) w kws := by
  cases w with
  | ref a => exact h.elim (fun h => .inl (aup_old (fun e => hp (by rw [e])) h)) fun h => .inr (aup_old (fun e => hp (by rw [e])) h)
  | _ => exact h.elim
theorem DkA.sub {G' : AH} {kws : List (Key × W)} (h : DkA G w kws) (s : Sub G G') : DkA G' w kws := by
  cases w with
  | ref a => exact h.elim (fun h => .inl (s _ _ h)) fun h => .inr (s _ _ h)
  | _ => exact h.elim
theorem DkA.ne {p : Addr} {kws : List (Key × W)} (h : DkA G w kws) (hp : G p = none) : w ≠ .ref p := fun e => by
  subst e
  rcases h with h | h <;> (rw [h] at hp; cases hp)
theorem fIx_ls {i : Int} {v : W} (h : LsA G x xs) (e : atI xs i = some v) (k : K v G) : fIx x (.int i) G K := by
  cases x with
  | lst ys => cases (show ys = xs from h); show onO _ _; rw [e]; exact k
  | ref a => exact ⟨_, _, h, e, k⟩
  | _ => exact h.elim
theorem fLen_ls (h : LsA G x xs) (k : K (.int xs.length) G) : fLen [x] G K := by
  cases x with
  | lst ys => cases (show ys = xs from h); exact k
  | ref a => exact ⟨_, h, k⟩
  | _ => exact h.elim
theorem fList_ls (h : LsA G x xs) (k : ∀ p, G p = none → K (.ref p) (aup G p (.lst xs))) : fList [x] G K := by
  cases x with
  | lst ys => cases (show ys = xs from h); exact k
  | ref a => exact ⟨_, h, k⟩
  | _ => exact h.elim
theorem fTuple_ls (h : LsA G x xs) (k : K (.tup xs) G) : fTuple [x] G K := by
  cases x with
  | lst ys => cases (show ys = xs from h); exact k
  | ref a => exact ⟨_, h, k⟩
  | _ => exact h.elim
end
/-! ### dicts by small numbers -/
/-- the dict kws has just what b tells, at numbers below N -/
structure DI (N : Nat) (kws : List (Key × W)) (b : Nat → Option W) : Prop where
  get : ∀ j : Nat, lk kws (.inl (j : Int)) = b j
  nd : (kws.map (·.1)).Nodup
  dom : ∀ p ∈ kws, ∃ j : Nat, j < N ∧ p.1 = .inl (j : Int)
theorem nodup_below : ∀ (N : Nat) (l : List Nat), l.Nodup → (∀ x ∈ l, x < N) → l.length ≤ N
  | 0, l, _, h => by
    cases l with
    | nil => exact Nat.le_refl _
    | cons x l => exact absurd (h x List.mem_cons_self) (Nat.not_lt_zero _)
  | N + 1, l, nd, h => by
    have e : (l.filter fun x => decide (x ≠ N)).length ≤ N := nodup_below N _ (nd.filter _) fun x hx => by
      have hx := List.mem_filter.mp hx
      have := h x hx.1
      have : x ≠ N := by simpa using hx.2
      omega
    have c : l.length ≤ (l.filter fun x => decide (x ≠ N)).length + 1 := by
      clear h e
      induction l with
      | nil => simp
      | cons x l ih =>
        have nd := List.nodup_cons.mp nd
        by_cases z : x = N
        · subst z
          have : (l.filter fun y => decide (y ≠ x)) = l := List.filter_eq_self.mpr fun y hy => by
            simp; intro e; subst e; exact nd.1 hy
          rw [List.filter_cons_of_neg (by simp), this, List.length_cons]
          exact Nat.le_refl _
        · rw [List.filter_cons_of_pos (by simpa using z), List.length_cons, List.length_cons]
          have := ih nd.2
          omega
    omega
theorem DI.len {N : Nat} {kws : List (Key × W)} {b : Nat → Option W} (d : DI N kws b) : kws.length ≤ N := by
  have h : ((kws.map (·.1)).map fun k => match k with | .inl i => i.toNat | .inr _ => 0).length ≤ N := by
    refine nodup_below N _ ?_ fun x hx => ?_
    · have nd := d.nd
      have dm : ∀ k ∈ kws.map (·.1), ∃ j : Nat, k = Sum.inl (j : Int) := fun k hk => by
        obtain ⟨p, hp, rfl⟩ := List.mem_map.mp hk
        obtain ⟨j, _, e⟩ := d.dom p hp
        exact ⟨j, e⟩
      generalize kws.map (·.1) = l at nd dm
      induction l with
      | nil => exact List.nodup_nil
      | cons k l ih =>
        have nd := List.nodup_cons.mp nd
        rw [List.map_cons, List.nodup_cons]
        refine ⟨fun hm => ?_, ih nd.2 fun k hk => dm k (List.mem_cons_of_mem _ hk)⟩
        obtain ⟨k', hk', e⟩ := List.mem_map.mp hm
        obtain ⟨j, rfl⟩ := dm k List.mem_cons_self
        obtain ⟨j', rfl⟩ := dm k' (List.mem_cons_of_mem _ hk')
        have e : (j' : Int).toNat = (j : Int).toNat := e
        have : j' = j := by omega
        subst this
        exact nd.1 hk'
    · obtain ⟨k, hk, rfl⟩ := List.mem_map.mp hx
      obtain ⟨p, hp, rfl⟩ := List.mem_map.mp hk
      obtain ⟨j, hj, e⟩ := d.dom p hp
      rw [e]
      show (j : Int).toNat < N
      omega
  simpa using h
theorem DI.nil (N : Nat) : DI N [] fun _ => none := ⟨fun _ => rfl, List.nodup_nil, fun _ h => by cases h⟩
theorem pk_keys {κ : Type} [DecidableEq κ] (kws : List (κ × W)) (k : κ) (w : W) : (pk kws k w).map (·.1) = if (lk kws k).isSome = true then kws.map (·.1) else kws.map (·.1) ++ [k] := by
  unfold pk
  split
  · rw [List.map_map]
    refine List.map_congr_left fun p _ => ?_
    show (if p.1 = k then (p.1, w) else p).1 = p.1
    split <;> rfl
  · rw [List.map_append]; rfl
theorem lk_none {κ : Type} [DecidableEq κ] {kws : List (κ × W)} {k : κ} (h : ¬ (lk kws k).isSome = true) : k ∉ kws.map (·.1) := fun hm => by
  obtain ⟨p, hp, rfl⟩ := List.mem_map.mp hm
  apply h
  unfold lk
  rw [Option.isSome_map, List.find?_isSome]
  exact ⟨p, hp, by simp⟩
theorem DI.put {N j : Nat} {kws : List (Key × W)} {b : Nat → Option W} (d : DI N kws b) (hj : j < N) (w : W) : DI N (pk kws (.inl (j : Int)) w) fun i => if i = j then some w else b i := by
  refine ⟨fun i => ?_, ?_, fun p hp => ?_⟩
  · rw [lk_pk]
    by_cases e : i = j
    · subst e; simp
    · rw [if_neg e, if_neg (fun z => e (by injection z with z; omega))]; exact d.get i
  · rw [pk_keys]
    split
    · exact d.nd
    · rename_i h
      have := lk_none h
      rw [List.nodup_append]
      exact ⟨d.nd, by simp, fun a ha c hc e => by simp at hc; subst hc; subst e; exact this ha⟩
  · have hk : p.1 ∈ (pk kws (.inl (j : Int)) w).map (·.1) := List.mem_map_of_mem hp
    rw [pk_keys] at hk
    split at hk
    · obtain ⟨q, hq, e⟩ := List.mem_map.mp hk
      obtain ⟨i, hi, e2⟩ := d.dom q hq
      exact ⟨i, hi, by rw [← e]; exact e2⟩
    · rcases List.mem_append.mp hk with hk | hk
      · obtain ⟨q, hq, e⟩ := List.mem_map.mp hk
        obtain ⟨i, hi, e2⟩ := d.dom q hq
        exact ⟨i, hi, by rw [← e]; exact e2⟩
      · exact ⟨j, hj, by simpa using hk⟩
theorem DI.cong {N : Nat} {kws : List (Key × W)} {b b' : Nat → Option W} (d : DI N kws b) (h : ∀ i, b i = b' i) : DI N kws b' := ⟨fun i => (d.get i).trans (h i), d.nd, d.dom⟩
theorem keyW_nat (j : Nat) : keyW (.int (j : Int)) = some (.inl (j : Int)) := rfl
theorem DI.small {N : Nat} {kws : List (Key × W)} {b : Nat → Option W} (d : DI N kws b) (h : N ≤ 100000) : kws.length < sizeLine := Nat.lt_of_le_of_lt (Nat.le_trans d.len h) (by decide)
/-- two names by each item -/
theorem lk_map2 {X : Cx} {elt : Expr} {scope : Scope} {ρ : AS} {K : W → AH → Prop} {ι : Type} {y1 y2 : Str} {i1 i2 : Nat} {p1 p2 p3 : Pos} {kk : Nat} {zs : List ι} (g1 g2 h : ι → W) {okk : AH → Prop} {G1 : AH} (hN : X.N.Nodup) (hl : zs.length ≤ 100000) (ho : ∀ D ws, G1 D = none → okk (aup G1 D (.lst ws)))
    (turn : ∀ z, z ∈ zs → ∀ D ws, G1 D = none → Blk X scope fun Y => EQ Y elt ((ρ.set i1 (some (g1 z))).set i2 (some (g2 z))) (aup G1 D (.lst ws)) fun v G' => v = h z ∧ G' = aup G1 D (.lst ws)) (k : ∀ D, G1 D = none → K (.ref D) (aup G1 D (.lst (zs.map h))))
    (hi1 : X.N[i1]? = some y1 := by rfl) (hi2 : X.N[i2]? = some y2 := by rfl) (h12 : i1 ≠ i2 := by decide) (hx1 : Blk X scope fun Y => Loc Y.env.scope y1 := by exact fun _ _ _ _ _ => .inl rfl) (hx2 : Blk X scope fun Y => Loc Y.env.scope y2 := by exact fun _ _ _ _ _ => .inl rfl)
    (hf1 : Blk X scope fun Y => Y.fn y1 = true ∨ Y.env.scope.names.lookup y1 = some .local := by exact fun _ _ _ _ _ => .inr rfl) (hf2 : Blk X scope fun Y => Y.fn y2 = true ∨ Y.env.scope.names.lookup y2 = some .local := by exact fun _ _ _ _ _ => .inr rfl)
    (hc : Blk X scope fun Y => Y.calm = true := by exact fun _ _ _ _ _ => rfl)
    (hn : Blk X scope fun Y => (assignEach [.Name y1 p1, .Name y2 p2] Y.env).length = 2 := by exact fun _ _ _ _ _ => rfl) (hst : Blk X scope fun Y => (assignEach [.Name y1 p1, .Name y2 p2] Y.env).findIdx? (·.1) = none := by exact fun _ _ _ _ _ => rfl)
    (hs1 : Blk X scope fun Y => (assignEach [.Name y1 p1, .Name y2 p2] Y.env).map (·.2) = assign (.Name y1 p1) Y.env :: (assignEach [.Name y2 p2] Y.env).map (·.2) := by exact fun _ _ _ _ _ => rfl) (hs2 : Blk X scope fun Y => (assignEach [.Name y2 p2] Y.env).map (·.2) = assign (.Name y2 p2) Y.env :: (assignEach [] Y.env).map (·.2) := by exact fun _ _ _ _ _ => rfl) :
    LcK X scope (.Tuple [.Name y1 p1, .Name y2 p2] kk p3) elt [] [i1, i2] ρ K (zs.map fun z => .tup [g1 z, g2 z]) okk G1 := ⟨fun D hD => by
  refine ⟨fun n G' => G' = aup G1 D (.lst ((zs.take n).map h)), rfl, fun n G' _ e => by subst e; exact ho D _ hD, fun n x G' hx' e => ?_, fun G' e => by subst e; rw [List.length_map, List.take_length]; exact k D hD⟩
  subst e
  obtain ⟨z, hz, rfl⟩ : ∃ z, zs[n]? = some z ∧ W.tup [g1 z, g2 z] = x := by
    rw [List.getElem?_map] at hx'
    exact Option.map_eq_some_iff.mp hx'
  intro s0 H0 C cl fp
  refine n_tup rfl (ns_cons (n_name hN (ns_cons (n_name hN (ns_nil ?_) hi2 (by simp) (hx2 s0 H0 C cl fp) (hf2 s0 H0 C cl fp)) (hs2 s0 H0 C cl fp)) hi1 (by simp) (hx1 s0 H0 C cl fp) (hf1 s0 H0 C cl fp)) (hs1 s0 H0 C cl fp)) (hc s0 H0 C cl fp) (hn s0 H0 C cl fp) (hst s0 H0 C cl fp)
  intro s0 H0 C cl fp
  refine ts_nil (ifT ?_)
  intro s0 H0 C cl fp
  have e : ((wipeW ρ [i1, i2]).set i1 (some (g1 z))).set i2 (some (g2 z)) = (ρ.set i1 (some (g1 z))).set i2 (some (g2 z)) := by
    show ((((ρ.set i2 none).set i1 none).set i1 (some (g1 z))).set i2 (some (g2 z))) = _
    refine List.ext_getElem? fun j => ?_
    by_cases e2 : i2 = j
    · subst e2; simp [List.getElem?_set]
    · by_cases e1 : i1 = j
      · subst e1; simp [List.getElem?_set, e2]
      · simp [List.getElem?_set, e1, e2]
  rw [e]
  refine (turn z (List.mem_of_getElem? hz) D _ hD s0 H0 C cl fp).mono fun v G' ⟨e1, e2⟩ => ?_
  subst e1 e2
  refine ⟨_, aup_same, ?_, ?_⟩
  · rw [List.length_map, List.length_take]
    exact Nat.lt_of_le_of_lt (Nat.le_trans (Nat.min_le_right _ _) hl) (by decide)
  · show aup _ D _ = aup G1 D (.lst ((zs.take (n + 1)).map h))
    rw [aup_aup, List.take_succ, hz, Option.toList_some, List.map_append]
    rfl⟩
/-- one entry of a dict: its list is held by value from now on -/
theorem KWV.reput {H : Hp} {kws : List (Key × W)} {kvs : List (Key × V)} (r : KWV H kws kvs) (nd : (kws.map (·.1)).Nodup) {k : Key} {v : V} {w' : W} (hv : valV kvs k = some v) (h : RV H w' v) : KWV H (pk kws k w') kvs := by
  have all : ∀ p ∈ kvs, p.1 = k → p.2 = v := by
    have ek : kws.map (·.1) = kvs.map (·.1) := by
      clear nd hv
      unfold KWV at r
      induction r with
      | nil => rfl
      | cons h t ih => rw [List.map_cons, List.map_cons, h.1, ih]
    rw [ek] at nd
    clear ek r
    induction kvs with
    | nil => intro p hp; cases hp
    | cons q qs ih =>
      intro p hp e
      have nd := List.nodup_cons.mp nd
      by_cases z : q.1 = k
      · rw [valV_pos z] at hv
        rcases List.mem_cons.mp hp with hp | hp
        · rw [hp]; exact Option.some.inj hv
        · exact absurd (List.mem_map_of_mem (f := (·.1)) hp) (by rw [e, ← z]; exact nd.1)
      · rw [valV_neg z] at hv
        rcases List.mem_cons.mp hp with hp | hp
        · subst hp; exact absurd e z
        · exact ih nd.2 hv p hp e
  have sm : (lk kws k).isSome = true := by rw [← r.isSome k, hv]; rfl
  unfold pk
  rw [if_pos sm]
  clear nd hv sm
  unfold KWV at r ⊢
  induction r with
  | nil => exact .nil
  | @cons p q ps qs hh t ih =>
    rw [List.map_cons]
    refine .cons ?_ (ih fun p hp => all p (List.mem_cons_of_mem _ hp))
    by_cases z : p.1 = k
    · rw [if_pos z]
      exact ⟨hh.1, by rw [all q List.mem_cons_self (by rw [← hh.1]; exact z)]; exact h⟩
    · rw [if_neg z]; exact hh
theorem s_frzD {X : Cx} {es : List Stmt} {ρ : AS} {G : AH} {A : AEnds} {a d : Addr} {kws : List (Key × W)} {ws : List W} (k : Key) (hd : G d = some (.dK kws)) (nd : (kws.map (·.1)).Nodup) (hk : lk kws k = some (.ref a)) (ha : G a = some (.lst ws)) (h : SQ X es ρ (aup (adel G a) d (.dK (pk kws k (.lst ws)))) A) : SQ X es ρ G A := ⟨fun pins s σ H I rs rg => by
  obtain ⟨vs, hv, rr⟩ := rg.lst ha
  obtain ⟨od, I2⟩ := I.lock hv trivial
  obtain ⟨k2, rg2⟩ := rg.lock (od := od) hv
  obtain ⟨kvs, h1, h2⟩ := rg d _ hd
  have hda : d ≠ a := ane hd ha (fun q => by cases q)
  have vv := h2.val k
  rw [hk] at vv
  obtain ⟨v, e1, e2⟩ := vv
  have q2 : KWV (upd H a (.frz od (.lst vs))) (pk kws k (.lst ws)) kvs := (h2.mono k2).reput nd e1 ⟨a, vs, e2, ⟨od, upd_same⟩, rr.mono k2⟩
  have rg3 : RG (cc X) (upd H a (.frz od (.lst vs))) (aup (adel G a) d (.dK (pk kws k (.lst ws)))) := fun q o e => by
    by_cases z : q = d
    · subst z; rw [aup_same] at e; cases e
      exact ⟨kvs, by rw [upd_ne hda]; exact h1, q2⟩
    · rw [aup_ne z] at e; exact rg2 q o e
  exact thn (h.run pins s σ _ I2 (rs.mono k2) rg3) fun u s' q => SP.imp (D := CD (cc X) _ A) q (CD.pre k2)⟩
/-- {k: v} -/
theorem q_disp1 {X : Cx} {a b : Expr} {pos : Pos} {ρ : AS} {G : AH} {K : W → AH → Prop} (h : ∀ p, G p = none → EQ X a ρ (aup G p (.dK [])) fun x G1 => EQ X b ρ G1 fun y G2 => ∃ kk, keyW x = some kk ∧ G2 p = some (.dK []) ∧ K (.ref p) (aup G2 p (.dK [(kk, y)]))) : EQ X (.Dict [some a] [b] pos) ρ G K :=
  EQ.of (pe_disp (pps_cons pe_E pe_E pps_nil) rfl rfl (by simp) (by simp)) fun σ H rs rg => fun p hp =>
    ⟨ρ, aup G p (.dK []), _, h p (rg.free hp), rs.mono (Keep.new hp), rg.new hp (show RO _ _ p (.dK []) from ⟨[], upd_same, .nil⟩), fun u H1 ⟨x, G1, k1, rx, rg1, hv⟩ => ⟨ρ, G1, _, hv, (rs.mono (Keep.new hp)).mono k1, rg1, fun v H2 ⟨y, G2, k2, ry, rg2, kk, hk, hg, q⟩ => by
      obtain ⟨kvs0, h1, h2⟩ := rg2 p _ hg
      unfold KWV at h2
      cases h2
      have ek := rv_key hk rx
      subst ek
      obtain ⟨k4, rg4⟩ := rg2.mutD (kvs' := [(kk, v)]) (kws' := [(kk, y)]) h1 (.cons ⟨rfl, ry⟩ .nil)
      exact ⟨h1, [(kk, v)], rfl, by simp, .ref p, _, (((Keep.new hp).trans k1).trans k2).trans k4, rfl, rg4, q⟩⟩⟩
/-- reversed of a list -/
theorem i_rev {X : Cx} {tg e : Expr} {ρ : AS} {G : AH} {R : IK} {p pos : Pos} (hg : Gl X "reversed") (hm : X.mg "reversed" = none) (h : EQ X e ρ G fun w G1 => ∃ xs, LsA G1 w xs ∧ R xs.reverse (fun G => LsA G w xs) G1) (hs : starEach [e] X.env = [(false, eval e X.env)] := by rfl) :
    IQ X tg (.Call (.Name "reversed" p) [e] [] pos) ρ G R :=
  IQ.of (pi_reversed hg hm (pa_cons pe_E pa_nil hs) hs) fun σ H rs rg => ⟨ρ, G, _, h, rs, rg, fun u H1 ⟨w, G1, k1, rx, rg1, xs, ha, q⟩ => by
    obtain ⟨a, vs, e, hsq, r⟩ := ha.sq rg1 rx
    subst e
    refine ⟨a, vs, rfl, hsq, xs.reverse, _, G1, k1, rg1, ⟨fun i H2 G2 k2 rg2 o2 hi => ?_, fun i H2 G2 v H3 k2 rg2 o2 hi y => ?_, fun i H2 G2 k2 rg2 o2 hi => ?_⟩, q⟩
    · rw [List.length_reverse] at hi
      obtain ⟨a2, vs2, e2, hv2, r2⟩ := LsA.sq rg2 o2 (rx.mono k2)
      cases e2
      have l1 := r.length
      obtain ⟨v, h1, _⟩ := r2.get (show xs[vs.length - 1 - i]? = some (xs[vs.length - 1 - i]'(by omega)) by simp [show vs.length - 1 - i < xs.length by omega])
      exact ⟨by omega, vs2, v, hv2, h1⟩
    · rw [List.length_reverse] at hi
      obtain ⟨e, y⟩ := y
      subst e
      obtain ⟨a2, vs2, e2, hv2, r2⟩ := LsA.sq rg2 o2 (rx.mono k2)
      cases e2
      have l1 := r.length
      obtain ⟨w', h1, h2⟩ := r2.back (y vs2 hv2)
      refine ⟨Keep.refl, rg2, w', ?_, h2⟩
      rw [List.getElem?_reverse hi, l1]
      exact h1
    · rw [List.length_reverse, r.length] at hi
      exact hi⟩
/-- while, by a number that falls -/
theorem s_whileN {X : Cx} {c : Expr} {pos : Pos} {ρ : AS} {G : AH} {A : AEnds} {body : List Stmt} (hp : PassesOwn (model X.prog X.w) X.A X.env X.xe) (P : Nat → AS → AH → Prop) (m0 : Nat) (h0 : P m0 ρ G)
    (h : ∀ m ρ G, P m ρ G → BQ X c ρ G fun d G1 => ifB d (SQ X body ρ G1 { A with nx := fun ρ' G' => ∃ m', m' < m ∧ P m' ρ' G', ct := fun ρ' G' => ∃ m', m' < m ∧ P m' ρ' G', bk := A.nx }) (A.nx ρ G1)) : S1 X (.While c body [] pos) ρ G A :=
  S1.of (ps_while hp pt_T pss_S) fun σ H rs rg => by
    refine ⟨fun m σ' H' => ∃ ρ' G', Keep H H' ∧ RS H' σ' ρ' ∧ RG (cc X) H' G' ∧ P m ρ' G', ⟨m0, ρ, G, Keep.refl, rs, rg, h0⟩, ?_⟩
    rintro m σ1 H1 ⟨ρ1, G1, k1, rs1, rg1, p1⟩
    refine ⟨ρ1, G1, _, h m ρ1 G1 p1, rs1, rg1, fun d H2 ⟨G2, k2, rg2, q⟩ => ?_⟩
    cases d with
    | false => exact ⟨ρ1, G2, k1.trans k2, rs1.mono k2, rg2, q.h⟩
    | true =>
      refine ⟨fun σ' H' => ∃ ρ' G', (∃ m', m' < m ∧ P m' ρ' G') ∧ Keep H H' ∧ RS H' σ' ρ' ∧ RG (cc X) H' G', fun σ' H' ⟨ρ', G', ⟨m', l, p'⟩, k, rs', rg'⟩ => ⟨m', l, ρ', G', k, rs', rg', p'⟩, ρ1, G2, _, q.h, rs1.mono k2, rg2, ?_⟩
      refine ⟨fun σ' H' ⟨ρ', G', k, rs', rg', q'⟩ => ⟨ρ', G', q', (k1.trans k2).trans k, rs', rg'⟩, fun _ _ z => z.pre (k1.trans k2), fun _ _ z => z.pre (k1.trans k2), fun σ' H' ⟨ρ', G', k, rs', rg', q'⟩ => ⟨ρ', G', q', (k1.trans k2).trans k, rs', rg'⟩⟩
end AL
namespace AL
open PySem PySem.Spec L2
open PyProof.Rows hiding St
theorem reads_ints {h : Heap} : ∀ {ns : List Int} {vs : List V} {us : List Value}, vs = ns.map V.int → Vals vs us → ReadsAll h us (ns.map PyData.int) []
  | [], _, _, e, r => by subst e; cases r; exact .nil
  | n :: ns, _, _, e, r => by
    subst e
    cases r with
    | cons r1 r2 =>
      obtain ⟨t, rfl⟩ := (show ∃ t, _ = Value.int n t from r1)
      exact .cons (as := []) (bs := []) (.int n t) (reads_ints rfl r2)
def rMaxDef (K : PySem.W.Frag) : List V → List V → Hp → VK → Prop := fun vs zs H Q => ∃ (a : Addr) (ns : List Int) (d : Int), vs = [.ref a] ∧ zs = [.int d] ∧ SqL K H a (ns.map V.int) ∧ (ns = [] → Q (.int d) H) ∧ ∀ n r, ns = n :: r → Q (.int (r.foldl max n)) H
theorem cr_maxDef {X : Cx} (hc : X.calm = true) (hu : X.A.units + 64 < cLine) : CallRK X (.builtin "max") [Str.ofString "default"] (rMaxDef X.K) := by
  intro pins s σ H vs zs us ws Q I r rz h
  obtain ⟨a, ns, d, rfl, rfl, hs, q1, q2⟩ := h
  obtain rfl := Vals.ref1 r
  obtain ⟨w1, rfl, e1⟩ := vals1 rz
  obtain ⟨its, rv, hl, hz⟩ := I.list hs
  have dep : PyData.depthAll (ns.map PyData.int) ≤ 0 := dep_ints ns
  refine PySem.W.max_list_default (xs := ns.map PyData.int) (as := []) (I.ok.hd hc) hl.isList (by simpa using reads_ints rfl rv) ⟨fun x hx y hy => ?_, fun x hx => ?_⟩ (by omega) (fun e h' tk hk => ?_) fun y ys i v h' tk bs e hv hr hk => ?_
  · obtain ⟨n, _, rfl⟩ := List.mem_map.mp hx
    obtain ⟨m, _, rfl⟩ := List.mem_map.mp hy
    rfl
  · obtain ⟨n, _, rfl⟩ := List.mem_map.mp hx
    intro z; cases z
  · have e : ns = [] := List.map_eq_nil_iff.mp e
    exact ⟨.int d, H, I.kept (t' := tk) hk, e1, q1 e⟩
  · cases ns with
    | nil => cases e
    | cons n r =>
      rw [List.map_cons, List.cons.injEq] at e
      obtain ⟨rfl, rfl⟩ := e
      rw [PySem.W.maxD_ints] at hr
      cases hr with
      | int _ t => exact ⟨.int _, H, I.kept (t' := tk) hk, ⟨_, rfl⟩, q2 n r rfl⟩
section
variable {X : Cx} {e : Expr} {p pos p2 kpos : Pos} {ρ : AS} {G : AH} {K : W → AH → Prop}
/-- max(.., default = d), of whole numbers -/
theorem q_maxDef {d : Int} {j : Nat} (hu : X.A.units + 64 < cLine) (hm : X.mg "max" = none) (h : AQ X [e] ρ G fun ws G1 => ∃ w ns, ws = [w] ∧ LsA G1 w (ns.map W.int) ∧ (ns = [] → K (.int d) G1) ∧ ∀ n r, ns = n :: r → K (.int (r.foldl max n)) G1) (hc : X.calm = true := by rfl) (hg : Gl X "max" := by rfl)
    (he : backTo pos (starEach [e] X.env) = (false, eval e X.env) :: backTo pos (starEach [] X.env) := by rfl) (hpl : (backTo pos (starEach [e] X.env)).any (·.1) = false := by rfl)
    (hall : (backToKw pos (keywordEach [⟨some "default", .Constant (.int d) j p2, kpos⟩] X.env)).all (·.1.isSome) = true := by rfl) (hnone : (backToKw pos (keywordEach [⟨some "default", .Constant (.int d) j p2, kpos⟩] X.env)).any (·.1.isNone) = false := by rfl) (hks : (backToKw pos (keywordEach [⟨some "default", .Constant (.int d) j p2, kpos⟩] X.env)).filterMap (·.1) = [Str.ofString "default"] := by rfl) :
    EQ X (.Call (.Name "max" p) [e] [⟨some "default", .Constant (.int d) j p2, kpos⟩] pos) ρ G K :=
  EQ.of (pe_callBK (cr_maxDef hc hu) hg hm (by decide +kernel) pa_A (pk_cons pe_int pk_nil) (by decide) (by decide) he hpl hall hnone hks) fun σ H rs rg => ⟨ρ, G, _, h, rs, rg, fun vs H1 ⟨ws, G1, k1, r1, rg1, _, w, ns, e, ha, q1, q2⟩ => by
    subst e
    obtain ⟨v, rfl, hv⟩ := rv1 r1
    obtain ⟨a, us, rfl, hu', rr⟩ := ha.sq rg1 hv
    cases rr.ints_eq
    exact ⟨a, ns, d, rfl, rfl, hu', fun e => (CW.stay (w := .int d) rfl rg1 (q1 e)).pre k1, fun n r e => (CW.stay (w := .int _) rfl rg1 (q2 n r e)).pre k1⟩⟩
end
section
variable {X : Cx} {a b : Expr} {pos : Pos} {ρ : AS} {G : AH} {K : W → AH → Prop}
/-- text * int -/
def fMulS : WR := fun x y G K => match x, y with
  | .str z, .int n => PySem.MulOk z n ∧ K (.str (PySem.Txt.mul z n)) G
  | _, _ => False
theorem op_mulS : OpR X (binaryOp .Mult) (fun x y H Q => ∃ z n, x = .str z ∧ y = .int n ∧ PySem.MulOk z n ∧ Q (.str (PySem.Txt.mul z n)) H) := by
  intro pins s σ H x y v u Q I rx ry h
  obtain ⟨z, n, rfl, rfl, hz, q⟩ := h
  obtain ⟨t, rfl⟩ := rx
  obtain ⟨t', rfl⟩ := ry
  exact PySem.SB.mul hz (fun t' tk => ⟨.str _, H, I.tok _, ⟨_, rfl⟩, q⟩)
theorem q_mulS (h : EQ X a ρ G fun x G1 => EQ X b ρ G1 fun y G2 => fMulS x y G2 K) : EQ X (.BinOp a .Mult b pos) ρ G K := by
  refine q_op (R := fMulS) op_mulS (fun x y u v H G K Q rx ry g h q => ?_) h
  cases x with
  | str z => cases y with
    | int n =>
      cases (show u = .str z from rx)
      cases (show v = .int n from ry)
      exact ⟨z, n, rfl, rfl, h.1, q _ _ (.stay (w := .str _) rfl g h.2)⟩
    | _ => exact h.elim
  | _ => exact h.elim
/-- script[i] -/
theorem q_ixS (h : EQ X a ρ G fun x G1 => EQ X b ρ G1 fun y G2 => ∃ p ns, ∃ (j : Nat) (n : Int), x = .ref p ∧ y = .int (j : Nat) ∧ Scr (cc X) G2 p ns ∧ ns[j]? = some n ∧ K (.int n) G2) (hs : PlainIx b := by exact fun _ _ => rfl) : EQ X (.Subscript a b pos) ρ G K :=
  EQ.of (pe_ix ix_seq pe_E pe_E hs) fun σ H rs rg => ⟨ρ, G, _, h, rs, rg, fun u H1 ⟨x, G1, k1, rx, rg1, hb⟩ => ⟨ρ, G1, _, hb, rs.mono k1, rg1, fun v H2 ⟨y, G2, k2, ry, rg2, p, ns, j, n, e1, e2, hS, hn, k⟩ => by
    subst e1 e2
    cases (show u = .ref p from rx)
    cases (show v = .int (j : Nat) from ry)
    exact .inl ⟨p, _, _, .int n, rfl, rfl, hS.sq rg2, atI_nat (by rw [List.getElem?_map, hn]; rfl), (CW.stay (w := .int n) rfl rg2 k).pre (k1.trans k2)⟩⟩⟩
theorem mul_okS {c : Nat} {n : Nat} (h : n ≤ 8) : PySem.MulOk ⟨#[c]⟩ (n : Int) := by
  have : n = 0 ∨ n = 1 ∨ n = 2 ∨ n = 3 ∨ n = 4 ∨ n = 5 ∨ n = 6 ∨ n = 7 ∨ n = 8 := by omega
  have l : (⟨#[c]⟩ : Str).length = 1 := rfl
  unfold PySem.MulOk
  rw [l]
  rcases this with e | e | e | e | e | e | e | e | e <;> subst e <;> decide +kernel
theorem mul_cps {c : Nat} {n : Nat} (h : n ≤ 8) : (PySem.Txt.mul ⟨#[c]⟩ (n : Int)).cps.toList = List.replicate n c := by
  have : n = 0 ∨ n = 1 ∨ n = 2 ∨ n = 3 ∨ n = 4 ∨ n = 5 ∨ n = 6 ∨ n = 7 ∨ n = 8 := by omega
  rcases this with e | e | e | e | e | e | e | e | e <;> subst e <;> rfl
end
end AL
namespace AL
open PySem PySem.Spec L2
open PyProof.Rows hiding St
/-- a dict with tuples as keys: tracked, or locked -/
def DnA (G : AH) (w : W) (kws : List (W × W)) : Prop := match w with
  | .ref a => G a = some (.dN kws) ∨ G a = some (.zN kws)
  | _ => False
theorem DnA.new {G : AH} {w : W} {p : Addr} {o : AO} {kws : List (W × W)} (h : DnA G w kws) (hp : G p = none) : DnA (aup G p o) w kws := by
  cases w with
  | ref a => exact h.elim (fun h => .inl (aup_new hp h)) fun h => .inr (aup_new hp h)
  | _ => exact h.elim
theorem DnA.sub {G G' : AH} {w : W} {kws : List (W × W)} (h : DnA G w kws) (s : Sub G G') : DnA G' w kws := by
  cases w with
  | ref a => exact h.elim (fun h => .inl (s _ _ h)) fun h => .inr (s _ _ h)
  | _ => exact h.elim
section
variable {X : Cx} {pins : List (Addr × Obj)} {σ : St} {H : Hp} {s : Shared} {G : AH} {d : Addr} {kws : List (W × W)}
theorem dictN_rd (I : Inv X pins σ H s) (g : RG (cc X) H G) (h : DnA G (.ref d) kws) : ∃ es xs, NWV H kws es ∧ RawE es xs ∧ es.length ≤ sizeLine ∧ (d == sysModules) = false ∧ s.heap.DictOfH (nestedKind X.prog X.w) d xs ∧ (∃ ob, s.heap.get? d = some ob ∧ ob.dict = none) := by
  obtain ⟨es, r, raw⟩ : ∃ es, NWV H kws es ∧ rawN X.prog X.w d es s.heap := by
    rcases h with h | h
    · obtain ⟨es, hd, r⟩ := g d _ h
      exact ⟨es, r, (I.hok d _ hd).1⟩
    · obtain ⟨o, es, hd, r⟩ := g d _ h
      exact ⟨es, r, (I.hok d _ hd).2.1⟩
  obtain ⟨z, ns, xs, q, o, es', ep, h1, h2, h3, h4, h5⟩ := raw
  refine ⟨es, xs, r, q, z, ns, ⟨o, es', ep, h1, h2, h3, h4, fun x hx => ?_, h5⟩, ⟨o, h1, h2.2.1⟩⟩
  have go : ∀ {kws : List (W × W)} {es : List (NestedKey × Addr × V)} {xs : List (NestedKey × Addr × Value)}, NWV H kws es → RawE es xs → ∀ x ∈ xs, (nestedKind X.prog X.w).is s.heap x.1 x.2.1 := by
    intro kws es xs r q
    unfold NWV at r
    induction r generalizing xs with
    | nil => intro x hx; unfold RawE at q; cases q; cases hx
    | cons h t ih =>
      intro x hx
      unfold RawE at q
      cases q with
      | cons hq tq =>
        rcases List.mem_cons.mp hx with e | hx
        · subst e
          rw [← hq.1, ← hq.2.1, h.1]
          exact ⟨nested_of I _ _ _ h.2.1 h.2.2.2.1 rfl, h.2.2.1⟩
        · exact ih tq x hx
  exact go r q x hx
end
section
variable {X : Cx} {o e f : Expr} {pos apos cpos : Pos} {ρ : AS} {G : AH} {K : W → AH → Prop}
/-- d.get(k) -/
theorem q_getN1 (hu : X.A.units + 64 < cLine) (h : EQ X o ρ G fun x G1 => ∃ d kws, x = .ref d ∧ DnA G1 x kws ∧ EQ X e ρ G1 fun y G2 => ∃ kws, DnA G2 x kws ∧ keyOk y = true ∧ K ((lk kws y).getD .non) G2) (m : M1 X o "get" apos e cpos := by exact ⟨rfl, rfl, rfl, rfl⟩) : EQ X (.Call (.Attribute o "get" apos) [e] [] cpos) ρ G K := ⟨fun pins s σ H I rs rg => by
  refine wpAny_Call_method m.base m.few m.line PySem.F.plainAttrs_dict PySem.F.slot_dict_get PySem.F.type_dict_get (thn (h.run pins s σ H I rs rg) fun u s1 ⟨v, H1, I1, r1, x, G1, k1, rx, rg1, d, kws, ex, hd, q1⟩ => ?_)
  subst ex
  cases (show v = .ref d from rx)
  cases (show u = Value.ref d from r1)
  obtain ⟨_, _, _, _, _, _, dd0, od⟩ := dictN_rd I1 rg1 hd
  refine ⟨dd0.typeIs, fun b q => ?_, ?_⟩
  · cases q; exact od
  rw [m.trees]
  refine Calls.callWith_builtin rfl (Calls.evalArgs_plain (Calls.spliced_cons (thn (q1.run pins s1 σ H1 I1 (rs.mono k1) rg1) fun iv s2 ⟨v2, H2, I2, r2, y, G2, k2, ry, rg2, kws2, hd2, hk, k⟩ => Calls.spliced_nil ?_)))
  obtain ⟨bk, e⟩ := ref_of hk ry
  subst e
  cases (show iv = Value.ref bk from r2)
  obtain ⟨es, xs, r, e, hz, ns, dd, _⟩ := dictN_rd I2 rg2 hd2
  obtain ⟨hk1, hk2⟩ := keyOk_k hk
  refine call_meetsIn PySem.F.slot_dict_get dd.typeIs PySem.F.entry_dict_get (PySem.F.args_dict_get_2 _ _) (meetsH_dict_get (nestedKind X.prog X.w) d bk ns) ⟨show X.A.in1.units + 8 < cLine by show X.A.units + 1 + 8 < cLine; omega, nk y, xs, ⟨nested_of I2 y _ _ hk1 ry rfl, hk2⟩, dd, ?_⟩
  have ff := found_of r e hk1
  cases hl : lk kws2 y with
  | none =>
    rw [hl] at ff k
    rw [show atKey xs (nk y) = none from ff]
    exact ⟨.non, H2, I2.tok _, rfl, (CW.stay (w := .non) rfl rg2 k).pre (k1.trans k2)⟩
  | some w =>
    rw [hl] at ff k
    obtain ⟨b', v', u', f1, f2, f3⟩ := ff
    rw [f1]
    exact ⟨v', H2, I2.tok _, f3, (CW.stay f2 rg2 k).pre (k1.trans k2)⟩⟩
/-- d.get(k, x) -/
theorem q_getN2 (hu : X.A.units + 64 < cLine) (h : EQ X o ρ G fun x G1 => ∃ d kws, x = .ref d ∧ DnA G1 x kws ∧ EQ X e ρ G1 fun y G2 => EQ X f ρ G2 fun z G3 => ∃ kws, DnA G3 x kws ∧ keyOk y = true ∧ K ((lk kws y).getD z) G3) (m : M2 X o "get" apos e f cpos := by exact ⟨rfl, rfl, rfl, rfl⟩) : EQ X (.Call (.Attribute o "get" apos) [e, f] [] cpos) ρ G K := ⟨fun pins s σ H I rs rg => by
  refine wpAny_Call_method m.base m.few m.line PySem.F.plainAttrs_dict PySem.F.slot_dict_get PySem.F.type_dict_get (thn (h.run pins s σ H I rs rg) fun u s1 ⟨v, H1, I1, r1, x, G1, k1, rx, rg1, d, kws, ex, hd, q1⟩ => ?_)
  subst ex
  cases (show v = .ref d from rx)
  cases (show u = Value.ref d from r1)
  obtain ⟨_, _, _, _, _, _, dd0, od⟩ := dictN_rd I1 rg1 hd
  refine ⟨dd0.typeIs, fun b q => ?_, ?_⟩
  · cases q; exact od
  rw [m.trees]
  refine Calls.callWith_builtin rfl (Calls.evalArgs_plain (Calls.spliced_cons (thn (q1.run pins s1 σ H1 I1 (rs.mono k1) rg1) fun iv s2 ⟨v2, H2, I2, r2, y, G2, k2, ry, rg2, q2⟩ =>
    Calls.spliced_cons (thn (q2.run pins s2 σ H2 I2 (rs.mono (k1.trans k2)) rg2) fun fv s3 ⟨v3, H3, I3, r3, z, G3, k3, rz, rg3, kws2, hd2, hk, k⟩ => Calls.spliced_nil ?_))))
  have ry := ry.mono k3
  obtain ⟨bk, e⟩ := ref_of hk ry
  subst e
  cases (show iv = Value.ref bk from r2)
  obtain ⟨es, xs, r, e, hz, ns, dd, _⟩ := dictN_rd I3 rg3 hd2
  obtain ⟨hk1, hk2⟩ := keyOk_k hk
  refine call_meetsIn PySem.F.slot_dict_get dd.typeIs PySem.F.entry_dict_get (PySem.F.args_dict_get_3 _ _ _) (meetsH_dict_get_default (nestedKind X.prog X.w) d bk ns fv) ⟨show X.A.in1.units + 8 < cLine by show X.A.units + 1 + 8 < cLine; omega, nk y, xs, ⟨nested_of I3 y _ _ hk1 ry rfl, hk2⟩, dd, ?_⟩
  have ff := found_of r e hk1
  cases hl : lk kws2 y with
  | none =>
    rw [hl] at ff k
    rw [show atKey xs (nk y) = none from ff]
    exact ⟨v3, H3, I3.tok _, r3, (CW.stay rz rg3 k).pre ((k1.trans k2).trans k3)⟩
  | some w =>
    rw [hl] at ff k
    obtain ⟨b', v', u', f1, f2, f3⟩ := ff
    rw [f1]
    exact ⟨v', H3, I3.tok _, f3, (CW.stay f2 rg3 k).pre ((k1.trans k2).trans k3)⟩⟩
/-- dict(d) -/
theorem q_dictD {p : Pos} {es : List Expr} (hm : X.mg "dict" = none) (h : AQ X (e :: es) ρ G fun ws G1 => ∃ w kws, ws = [w] ∧ DkA G1 w kws ∧ ∀ p, G1 p = none → K (.ref p) (aup G1 p (.dK kws))) (hg : Gl X "dict" := by rfl)
    (he : starEach (e :: es) X.env = (false, eval e X.env) :: starEach es X.env := by rfl) (hpl : (backTo pos (starEach es X.env)).any (·.1) = false := by rfl) : EQ X (.Call (.Name "dict" p) (e :: es) [] pos) ρ G K :=
  q_callT (R := fun ws G1 K => ∃ w kws, ws = [w] ∧ DkA G1 w kws ∧ ∀ p, G1 p = none → K (.ref p) (aup G1 p (.dK kws))) call_dictD (fun ws vs H G K Q r g ⟨w, kws, e, hd, k⟩ q => by
    subst e
    obtain ⟨v, rfl, hv⟩ := rv1 r
    obtain ⟨a, kvs, rfl, hr, kv⟩ := hd.rd g hv
    exact ⟨a, kvs, rfl, hr, fun p hp => q _ _ ⟨.ref p, _, Keep.new hp, rfl, g.new hp (show RO _ _ p (.dK kws) from ⟨kvs, upd_same, kv.mono (Keep.new hp)⟩), k p (g.free hp)⟩⟩) hm (by decide +kernel) h hg (by decide) (by decide) he hpl
end
end AL
namespace SW
open PySem PySem.Spec L2 AL
def top (i : Nat) : Stmt := PySem.Challenge.pw_samewise_k68_whole_taken_out.main.body.getD i (.Pass ⟨0, 0, 0, 0⟩)
/-- names of built-ins that the text leaves alone -/
structure Bl (mg : Str → Option Value) : Prop where
  len : mg "len" = none
  min : mg "min" = none
  max : mg "max" = none
  range : mg "range" = none
  list : mg "list" = none
  tuple : mg "tuple" = none
  zip : mg "zip" = none
  abs : mg "abs" = none
  int : mg "int" = none
  divmod : mg "divmod" = none
  enumerate : mg "enumerate" = none
  any : mg "any" = none
  all : mg "all" = none
  sum : mg "sum" = none
  reversed : mg "reversed" = none
  dict : mg "dict" = none
  sorted : mg "sorted" = none
  isinstance : mg "isinstance" = none
  repr : mg "repr" = none
  str : mg "str" = none
  bool : mg "bool" = none
end SW
namespace SW
open PySem
/-- a term -/
inductive Tm where
  | num (n : Int) | name (x : Str) | of (w : Str) (ks : List Nat)
  deriving DecidableEq
/-- a class's sameness under leads -/
def mk (ls : List Nat) : Tm → Tm
  | .num n => .num n
  | .name x => .name x
  | .of w ks => .of w (ks.map fun k => ls.getD k 0)
def uni (ls : List Nat) (i j : Nat) : List Nat :=
  if ls.getD i 0 = ls.getD j 0 then ls else ls.map fun x => if x = max (ls.getD i 0) (ls.getD j 0) then min (ls.getD i 0) (ls.getD j 0) else x
def lkT (s : List (Tm × Nat)) (m : Tm) : Option Nat := (s.find? fun p => decide (p.1 = m)).map (·.2)
structure US where
  seen : List (Tm × Nat)
  ls : List Nat
  met : Bool
def ulStep (ts : List Tm) (st : US) (k : Nat) : US :=
  match lkT st.seen (mk st.ls (ts.getD k (.num 0))) with
  | none => { st with seen := st.seen ++ [(mk st.ls (ts.getD k (.num 0)), k)] }
  | some s => if st.ls.getD s 0 = st.ls.getD k 0 then st else { st with ls := uni st.ls s k, met := true }
def ulPass (ts : List Tm) (ls : List Nat) : Nat → US
  | 0 => ⟨[], ls, false⟩
  | k + 1 => ulStep ts (ulPass ts ls k) k
def ulAll (ts : List Tm) (ls : List Nat) : US := ulPass ts ls ts.length
/-- as often as there is something to be done -/
def ulLoop (ts : List Tm) : Nat → List Nat → List Nat
  | 0, ls => ls
  | f + 1, ls => if (ulAll ts ls).met = true then ulLoop ts f (ulAll ts ls).ls else (ulAll ts ls).ls
def edged (ls : List Nat) (es : List (Nat × Nat)) : List Nat := es.foldl (fun l e => uni l e.1 e.2) ls
def closedM (ts : List Tm) (es : List (Nat × Nat)) : List Nat := ulLoop ts ((edged (List.range ts.length) es).sum + 1) (edged (List.range ts.length) es)

/-! ### leads -/
structure Good (n : Nat) (ls : List Nat) : Prop where
  len : ls.length = n
  le : ∀ k, k < n → ls.getD k 0 ≤ k
  idem : ∀ k, k < n → ls.getD (ls.getD k 0) 0 = ls.getD k 0
theorem getD_map {ls : List Nat} {f : Nat → Nat} {k : Nat} (h : k < ls.length) : (ls.map f).getD k 0 = f (ls.getD k 0) := by
  simp [List.getD, h]
theorem getD_range {n k : Nat} (h : k < n) : (List.range n).getD k 0 = k := by simp [List.getD, h]
theorem Good.range (n : Nat) : Good n (List.range n) := ⟨List.length_range, fun k h => by rw [getD_range h]; exact Nat.le_refl _, fun k h => by rw [getD_range h, getD_range h]⟩
theorem Good.lt {n : Nat} {ls : List Nat} (g : Good n ls) {k : Nat} (h : k < n) : ls.getD k 0 < n := Nat.lt_of_le_of_lt (g.le k h) h
theorem uni_at {n : Nat} {ls : List Nat} (g : Good n ls) {i j k : Nat} (hk : k < n) : (uni ls i j).getD k 0 = if ls.getD i 0 = ls.getD j 0 then ls.getD k 0 else if ls.getD k 0 = max (ls.getD i 0) (ls.getD j 0) then min (ls.getD i 0) (ls.getD j 0) else ls.getD k 0 := by
  unfold uni
  by_cases e : ls.getD i 0 = ls.getD j 0
  · rw [if_pos e, if_pos e]
  · rw [if_neg e, if_neg e, getD_map (by rw [g.len]; exact hk)]
theorem Good.uni {n : Nat} {ls : List Nat} (g : Good n ls) {i j : Nat} (hi : i < n) (hj : j < n) : Good n (SW.uni ls i j) := by
  have li := g.lt hi
  have lj := g.lt hj
  refine ⟨?_, fun k hk => ?_, fun k hk => ?_⟩
  · unfold SW.uni
    split
    · exact g.len
    · rw [List.length_map]; exact g.len
  · rw [uni_at g hk]
    have := g.le k hk
    split
    · exact this
    · split
      · omega
      · exact this
  · have lk := g.lt hk
    have ii := g.idem i hi
    have jj := g.idem j hj
    have kk := g.idem k hk
    by_cases e : ls.getD i 0 = ls.getD j 0
    · rw [uni_at g hk, if_pos e, uni_at g lk, if_pos e]; exact kk
    · rw [uni_at g hk, if_neg e]
      by_cases q : ls.getD k 0 = max (ls.getD i 0) (ls.getD j 0)
      · rw [if_pos q]
        have lm : min (ls.getD i 0) (ls.getD j 0) < n := by omega
        rw [uni_at g lm, if_neg e]
        have : ls.getD (min (ls.getD i 0) (ls.getD j 0)) 0 = min (ls.getD i 0) (ls.getD j 0) := by
          rcases Nat.le_total (ls.getD i 0) (ls.getD j 0) with z | z
          · rw [Nat.min_eq_left z]; exact ii
          · rw [Nat.min_eq_right z]; exact jj
        rw [this, if_neg (by omega)]
      · rw [if_neg q, uni_at g lk, if_neg e, kk, if_neg q]
/-- made one -/
theorem uni_eq {n : Nat} {ls : List Nat} (g : Good n ls) {i j : Nat} (hi : i < n) (hj : j < n) : (uni ls i j).getD i 0 = (uni ls i j).getD j 0 := by
  rw [uni_at g hi, uni_at g hj]
  by_cases e : ls.getD i 0 = ls.getD j 0
  · rw [if_pos e, if_pos e, e]
  · rw [if_neg e, if_neg e]
    rcases Nat.lt_or_ge (ls.getD i 0) (ls.getD j 0) with z | z
    · rw [if_neg (by omega), if_pos (by omega)]; omega
    · rw [if_pos (by omega), if_neg (by omega)]; omega
/-- what is one stays one -/
theorem uni_keep {n : Nat} {ls : List Nat} (g : Good n ls) {i j a b : Nat} (ha : a < n) (hb : b < n) (e : ls.getD a 0 = ls.getD b 0) : (uni ls i j).getD a 0 = (uni ls i j).getD b 0 := by
  rw [uni_at g ha, uni_at g hb, e]
theorem sum_map_le (ls : List Nat) (hi lo : Nat) (h : lo < hi) : (ls.map fun x => if x = hi then lo else x).sum ≤ ls.sum := by
  induction ls with
  | nil => exact Nat.le_refl _
  | cons x ls ih =>
    rw [List.map_cons, List.sum_cons, List.sum_cons]
    split <;> omega
theorem sum_map_lt (ls : List Nat) (hi lo : Nat) (h : lo < hi) (m : hi ∈ ls) : (ls.map fun x => if x = hi then lo else x).sum < ls.sum := by
  induction ls with
  | nil => cases m
  | cons x ls ih =>
    rw [List.map_cons, List.sum_cons, List.sum_cons]
    have := sum_map_le ls hi lo h
    by_cases e : x = hi
    · rw [if_pos e]; omega
    · rw [if_neg e]
      have := ih ((List.mem_cons.mp m).resolve_left (fun z => e z.symm))
      omega
theorem uni_sum {n : Nat} {ls : List Nat} (g : Good n ls) {i j : Nat} (hi : i < n) (hj : j < n) (e : ¬ ls.getD i 0 = ls.getD j 0) : (uni ls i j).sum < ls.sum := by
  unfold uni
  rw [if_neg e]
  have mem : ∀ k, k < n → ls.getD k 0 ∈ ls := fun k hk => by
    have hk' : k < ls.length := by rw [g.len]; exact hk
    have : ls.getD k 0 = ls[k] := by simp [List.getD, hk']
    rw [this]; exact List.getElem_mem hk'
  refine sum_map_lt _ _ _ (by omega) ?_
  rcases Nat.le_total (ls.getD i 0) (ls.getD j 0) with z | z
  · rw [Nat.max_eq_right z]; exact mem j hj
  · rw [Nat.max_eq_left z]; exact mem i hi

/-! ### sameness -/
structure Congr (ts : List Tm) (es : List (Nat × Nat)) (R : Nat → Nat → Prop) : Prop where
  refl : ∀ a, R a a
  symm : ∀ a b, R a b → R b a
  trans : ∀ a b c, R a b → R b c → R a c
  edge : ∀ e ∈ es, R e.1 e.2
  same : ∀ i j, i < ts.length → j < ts.length → ts[i]? = ts[j]? → R i j
  cong : ∀ i j w ks js, ts[i]? = some (.of w ks) → ts[j]? = some (.of w js) → ks.length = js.length → (∀ k (h : k < ks.length) (h' : k < js.length), R ks[k] js[k]) → R i j
/-- every arm stands ahead -/
def WfT (ts : List Tm) : Prop := ∀ (i : Nat) (w : Str) (ks : List Nat), ts[i]? = some (Tm.of w ks) → ∀ k ∈ ks, k < i
/-- each term with its lead is in R -/
def Sound (n : Nat) (R : Nat → Nat → Prop) (ls : List Nat) : Prop := ∀ k, k < n → R k (ls.getD k 0)
theorem Sound.uni {ts : List Tm} {es : List (Nat × Nat)} {R : Nat → Nat → Prop} (C : Congr ts es R) {n : Nat} {ls : List Nat} (g : Good n ls) (s : Sound n R ls) {i j : Nat} (hi : i < n) (hj : j < n) (r : R i j) : Sound n R (SW.uni ls i j) := by
  intro k hk
  rw [uni_at g hk]
  have si := s i hi
  have sj := s j hj
  have sk := s k hk
  split
  · exact sk
  · split
    · rename_i e q
      rcases Nat.le_total (ls.getD i 0) (ls.getD j 0) with z | z
      · rw [Nat.min_eq_left z]
        rw [Nat.max_eq_right z] at q
        rw [q] at sk
        exact C.trans _ _ _ sk (C.trans _ _ _ (C.symm _ _ sj) (C.trans _ _ _ (C.symm _ _ r) si))
      · rw [Nat.min_eq_right z]
        rw [Nat.max_eq_left z] at q
        rw [q] at sk
        exact C.trans _ _ _ sk (C.trans _ _ _ (C.symm _ _ si) (C.trans _ _ _ r sj))
    · exact sk
theorem edged_ok {n : Nat} : ∀ (es : List (Nat × Nat)) (ls : List Nat), Good n ls → (∀ e ∈ es, e.1 < n ∧ e.2 < n) → Good n (edged ls es) ∧ (∀ a b, a < n → b < n → ls.getD a 0 = ls.getD b 0 → (edged ls es).getD a 0 = (edged ls es).getD b 0) ∧ ∀ e ∈ es, (edged ls es).getD e.1 0 = (edged ls es).getD e.2 0
  | [], ls, g, _ => ⟨g, fun _ _ _ _ h => h, fun e h => by cases h⟩
  | e :: es, ls, g, h => by
    have he := h e List.mem_cons_self
    obtain ⟨g2, k2, e2⟩ := edged_ok es (uni ls e.1 e.2) (g.uni he.1 he.2) fun x hx => h x (List.mem_cons_of_mem _ hx)
    refine ⟨g2, fun a b ha hb q => k2 a b ha hb (uni_keep g ha hb q), fun x hx => ?_⟩
    rcases List.mem_cons.mp hx with z | z
    · subst z
      exact k2 _ _ he.1 he.2 (uni_eq g he.1 he.2)
    · exact e2 x z
theorem edged_sound {ts : List Tm} {es0 : List (Nat × Nat)} {R : Nat → Nat → Prop} (C : Congr ts es0 R) {n : Nat} : ∀ (es : List (Nat × Nat)) (ls : List Nat), Good n ls → (∀ e ∈ es, e.1 < n ∧ e.2 < n) → (∀ e ∈ es, e ∈ es0) → Sound n R ls → Sound n R (edged ls es)
  | [], _, _, _, _, s => s
  | e :: es, ls, g, h, m, s => by
    have he := h e List.mem_cons_self
    exact edged_sound C es _ (g.uni he.1 he.2) (fun x hx => h x (List.mem_cons_of_mem _ hx)) (fun x hx => m x (List.mem_cons_of_mem _ hx)) (s.uni C g he.1 he.2 (C.edge e (m e List.mem_cons_self)))

/-! ### one walk over the terms -/
theorem lkT_app (s : List (Tm × Nat)) (m m' : Tm) (k : Nat) : lkT (s ++ [(m', k)]) m = (lkT s m).or (if m' = m then some k else none) := by
  unfold lkT
  rw [List.find?_append]
  cases h : s.find? fun p => decide (p.1 = m) with
  | some p => simp
  | none =>
    by_cases e : m' = m
    · simp [e]
    · simp [e]
theorem lkT_mem {s : List (Tm × Nat)} {m : Tm} {k : Nat} (h : lkT s m = some k) : (m, k) ∈ s := by
  unfold lkT at h
  obtain ⟨p, hp, e⟩ := Option.map_eq_some_iff.mp h
  have h1 := List.find?_some hp
  have h2 := List.mem_of_find?_eq_some hp
  have e1 : p.1 = m := by simpa using h1
  have : p = (m, k) := by rw [← e1, ← e]
  rw [← this]; exact h2
structure Pass (ts : List Tm) (ls0 : List Nat) (k : Nat) (st : US) : Prop where
  good : Good ts.length st.ls
  seen : ∀ p ∈ st.seen, p.2 < k
  keep : ∀ a b, a < ts.length → b < ts.length → ls0.getD a 0 = ls0.getD b 0 → st.ls.getD a 0 = st.ls.getD b 0
  yes : st.met = true → st.ls.sum < ls0.sum
  no : st.met = false → st.ls = ls0 ∧ (∀ p ∈ st.seen, ∃ t, ts[p.2]? = some t ∧ p.1 = mk ls0 t) ∧ ∀ i t, i < k → ts[i]? = some t → ∃ s, lkT st.seen (mk ls0 t) = some s ∧ ls0.getD s 0 = ls0.getD i 0
  sound : ∀ (es : List (Nat × Nat)) (R : Nat → Nat → Prop), Congr ts es R → Sound ts.length R ls0 → Sound ts.length R st.ls ∧ ∀ p ∈ st.seen, ∃ ls' t, Sound ts.length R ls' ∧ ts[p.2]? = some t ∧ p.1 = mk ls' t
theorem mk_cong {ts : List Tm} {es : List (Nat × Nat)} {R : Nat → Nat → Prop} (C : Congr ts es R) (wf : WfT ts) {l1 l2 : List Nat} (s1 : Sound ts.length R l1) (s2 : Sound ts.length R l2) {i j : Nat} {t u : Tm} (hi : ts[i]? = some t) (hj : ts[j]? = some u) (e : mk l1 t = mk l2 u) : R i j := by
  have li := (List.getElem?_eq_some_iff.mp hi).1
  have lj := (List.getElem?_eq_some_iff.mp hj).1
  cases t with
  | num n => cases u with
    | num m => simp only [mk] at e; exact C.same i j li lj (by rw [hi, hj, e])
    | name y => simp [mk] at e
    | of v js => simp [mk] at e
  | name x => cases u with
    | num m => simp [mk] at e
    | name y => simp only [mk] at e; exact C.same i j li lj (by rw [hi, hj, e])
    | of v js => simp [mk] at e
  | of w ks => cases u with
    | num m => simp [mk] at e
    | name y => simp [mk] at e
    | of v js =>
      simp only [mk, Tm.of.injEq] at e
      obtain ⟨e1, e2⟩ := e
      subst e1
      have el : ks.length = js.length := by simpa using congrArg List.length e2
      refine C.cong i j w ks js hi hj el fun k h h' => ?_
      have q : (ks.map fun k => l1.getD k 0)[k]? = (js.map fun k => l2.getD k 0)[k]? := by rw [e2]
      rw [List.getElem?_map, List.getElem?_map, List.getElem?_eq_getElem h, List.getElem?_eq_getElem h'] at q
      have q' : l1.getD ks[k] 0 = l2.getD js[k] 0 := by simpa using q
      have a1 := s1 ks[k] (Nat.lt_trans (wf i w ks hi _ (List.getElem_mem h)) li)
      have a2 := s2 js[k] (Nat.lt_trans (wf j w js hj _ (List.getElem_mem h')) lj)
      rw [q'] at a1
      exact C.trans _ _ _ a1 (C.symm _ _ a2)
theorem getD_of {ts : List Tm} {k : Nat} {t : Tm} (h : ts[k]? = some t) : ts.getD k (.num 0) = t := by simp [List.getD, h]
theorem pass_ok {ts : List Tm} (wf : WfT ts) {ls0 : List Nat} (g0 : Good ts.length ls0) : ∀ k, k ≤ ts.length → Pass ts ls0 k (ulPass ts ls0 k)
  | 0, _ => ⟨g0, (fun p h => by cases h), (fun _ _ _ _ h => h), (fun h => by cases h), (fun _ => ⟨rfl, (fun p h => by cases h), (fun i t h => by omega)⟩), fun es R C s => ⟨s, fun p h => by cases h⟩⟩
  | k + 1, hk => by
    have ih := pass_ok wf g0 k (by omega)
    show Pass ts ls0 (k + 1) (ulStep ts (ulPass ts ls0 k) k)
    generalize ulPass ts ls0 k = st at ih
    obtain ⟨t, ht⟩ : ∃ t, ts[k]? = some t := ⟨ts[k]'(by omega), by simp [show k < ts.length by omega]⟩
    have hkl : k < ts.length := by omega
    unfold ulStep
    rw [getD_of ht]
    cases hl : lkT st.seen (mk st.ls t) with
    | none =>
      simp only
      refine ⟨ih.good, fun p hp => ?_, ih.keep, ih.yes, fun hm => ?_, fun es R C s => ?_⟩
      · rcases List.mem_append.mp hp with h | h
        · have := ih.seen p h; omega
        · rw [List.mem_singleton.mp h]; exact Nat.lt_succ_self k
      · obtain ⟨h1, h2, h3⟩ := ih.no hm
        refine ⟨h1, fun p hp => ?_, fun i u hi hu => ?_⟩
        · rcases List.mem_append.mp hp with h | h
          · exact h2 p h
          · rw [List.mem_singleton.mp h]; exact ⟨t, ht, by rw [h1]⟩
        · rw [lkT_app]
          by_cases z : i = k
          · subst z
            rw [ht] at hu; cases hu
            rw [h1] at hl
            rw [hl, h1, if_pos rfl]
            exact ⟨i, rfl, rfl⟩
          · obtain ⟨s, q1, q2⟩ := h3 i u (by omega) hu
            exact ⟨s, by rw [q1]; rfl, q2⟩
      · obtain ⟨q1, q2⟩ := ih.sound es R C s
        refine ⟨q1, fun p hp => ?_⟩
        rcases List.mem_append.mp hp with h | h
        · exact q2 p h
        · rw [List.mem_singleton.mp h]; exact ⟨st.ls, t, q1, ht, rfl⟩
    | some s =>
      simp only
      have hs : s < k := ih.seen _ (lkT_mem hl)
      have hsl : s < ts.length := by omega
      by_cases e : st.ls.getD s 0 = st.ls.getD k 0
      · rw [if_pos e]
        refine ⟨ih.good, fun p hp => Nat.lt_succ_of_lt (ih.seen p hp), ih.keep, ih.yes, fun hm => ?_, ih.sound⟩
        obtain ⟨h1, h2, h3⟩ := ih.no hm
        refine ⟨h1, h2, fun i u hi hu => ?_⟩
        by_cases z : i = k
        · subst z
          rw [ht] at hu; cases hu
          rw [h1] at hl e
          exact ⟨s, hl, e⟩
        · exact h3 i u (by omega) hu
      · rw [if_neg e]
        refine ⟨ih.good.uni hsl hkl, fun p hp => Nat.lt_succ_of_lt (ih.seen p hp), fun a b ha hb q => uni_keep ih.good ha hb (ih.keep a b ha hb q), fun _ => ?_, (fun h => by cases h), fun es R C z => ?_⟩
        · have h1 := uni_sum ih.good hsl hkl e
          cases hm : st.met with
          | true => exact Nat.lt_trans h1 (ih.yes hm)
          | false => rw [← (ih.no hm).1]; exact h1
        · obtain ⟨q1, q2⟩ := ih.sound es R C z
          obtain ⟨ls', u, r1, r2, r3⟩ := q2 _ (lkT_mem hl)
          exact ⟨q1.uni C ih.good hsl hkl (mk_cong C wf r1 q1 r2 ht r3.symm), q2⟩
/-- what closed tells -/
structure Closed (ts : List Tm) (es : List (Nat × Nat)) (ls : List Nat) : Prop where
  good : Good ts.length ls
  edge : ∀ e ∈ es, ls.getD e.1 0 = ls.getD e.2 0
  like : ∀ i j t u, ts[i]? = some t → ts[j]? = some u → mk ls t = mk ls u → ls.getD i 0 = ls.getD j 0
  least : ∀ R, Congr ts es R → Sound ts.length R ls
theorem loop_ok {ts : List Tm} (wf : WfT ts) {es : List (Nat × Nat)} (he : ∀ e ∈ es, e.1 < ts.length ∧ e.2 < ts.length) : ∀ (f : Nat) (ls : List Nat), ls.sum < f → Good ts.length ls → (∀ e ∈ es, ls.getD e.1 0 = ls.getD e.2 0) → (∀ R, Congr ts es R → Sound ts.length R ls) → Closed ts es (ulLoop ts f ls)
  | 0, ls, h, _, _, _ => by omega
  | f + 1, ls, h, g, hE, hS => by
    have P := pass_ok wf g ts.length (Nat.le_refl _)
    unfold ulLoop
    by_cases m : (ulAll ts ls).met = true
    · rw [if_pos m]
      refine loop_ok wf he f _ (by have := P.yes m; unfold ulAll; omega) P.good (fun e hx => P.keep _ _ (he e hx).1 (he e hx).2 (hE e hx)) fun R C => (P.sound es R C (hS R C)).1
    · rw [if_neg m]
      have m' : (ulAll ts ls).met = false := by simpa using m
      obtain ⟨h1, h2, h3⟩ := P.no m'
      have e1 : (ulAll ts ls).ls = ls := h1
      rw [e1]
      refine ⟨g, hE, fun i j t u hi hj e => ?_, hS⟩
      obtain ⟨s, q1, q2⟩ := h3 i t (List.getElem?_eq_some_iff.mp hi).1 hi
      obtain ⟨s', q1', q2'⟩ := h3 j u (List.getElem?_eq_some_iff.mp hj).1 hj
      rw [e, q1'] at q1
      cases q1
      rw [← q2, ← q2']
theorem closed_ok {ts : List Tm} (wf : WfT ts) {es : List (Nat × Nat)} (he : ∀ e ∈ es, e.1 < ts.length ∧ e.2 < ts.length) : Closed ts es (closedM ts es) := by
  obtain ⟨g, _, e⟩ := edged_ok es _ (Good.range ts.length) he
  refine loop_ok wf he _ _ (Nat.lt_succ_self _) g e fun R C => edged_sound C es _ (Good.range _) he (fun _ h => h) fun k hk => ?_
  rw [getD_range hk]; exact C.refl k
/-- leads that make a sameness -/
theorem Closed.congr {ts : List Tm} {es : List (Nat × Nat)} {ls : List Nat} (c : Closed ts es ls) : Congr ts es fun a b => ls.getD a 0 = ls.getD b 0 where
  refl := fun _ => rfl
  symm := fun _ _ h => h.symm
  trans := fun _ _ _ h h' => h.trans h'
  edge := c.edge
  same := fun i j hi hj e => by
    have h1 : ts[i]? = some ts[i] := by simp [hi]
    exact c.like i j _ _ h1 (by rw [← e]; exact h1) rfl
  cong := fun i j w ks js hi hj hl h => by
    have e : (ks.map fun k => ls.getD k 0) = (js.map fun k => ls.getD k 0) := by
      refine List.ext_getElem (by simpa using hl) fun k h1 h2 => ?_
      rw [List.getElem_map, List.getElem_map]
      exact h k (by simpa using h1) (by simpa using h2)
    exact c.like i j (.of w ks) (.of w js) hi hj (show Tm.of w (ks.map fun k => ls.getD k 0) = Tm.of w (js.map fun k => ls.getD k 0) by rw [e])
/-- there is one alone -/
theorem Closed.one {ts : List Tm} {es : List (Nat × Nat)} {a b : List Nat} (ca : Closed ts es a) (cb : Closed ts es b) : a = b := by
  have la := ca.good.len
  have lb := cb.good.len
  refine List.ext_getElem (la.trans lb.symm) fun k h1 h2 => ?_
  have hk : k < ts.length := by rw [← la]; exact h1
  have ea : a.getD k 0 = a[k] := by simp [List.getD, h1]
  have eb : b.getD k 0 = b[k] := by simp [List.getD, h2]
  rw [← ea, ← eb]
  have q1 := ca.least _ cb.congr k hk
  have q2 := cb.least _ ca.congr k hk
  have l1 := cb.good.le (a.getD k 0) (ca.good.lt hk)
  have l2 := ca.good.le (b.getD k 0) (cb.good.lt hk)
  omega
end SW
namespace SW
open PySem PySem.Spec L2 AL
/-! ### as values -/
def nW (ks : List Nat) : List W := ks.map fun (k : Nat) => W.int k
theorem nW_length (ks : List Nat) : (nW ks).length = ks.length := by simp [nW]
theorem nW_get {ks : List Nat} {i k : Nat} (h : ks[i]? = some k) : (nW ks)[i]? = some (.int k) := by simp [nW, h]
theorem nW_getD {ks : List Nat} {i : Nat} (h : i < ks.length) : (nW ks)[i]? = some (.int (ks.getD i 0 : Nat)) := by simp [nW, List.getD, h]
theorem atI_of {xs : List W} {i : Nat} {w : W} (h : xs[i]? = some w) : atI xs (i : Int) = some w := atI_nat h
theorem nW_at {ks : List Nat} {i : Nat} (h : i < ks.length) : atI (nW ks) (i : Int) = some (.int (ks.getD i 0 : Nat)) := atI_of (nW_getD h)
theorem nW_set {ks : List Nat} {i k : Nat} : (nW ks).set i (.int k) = nW (ks.set i k) := by simp [nW, List.map_set]
def Tm.W : Tm → AL.W
  | .num n => .tup [.str "num", .int n]
  | .name x => .tup [.str "name", .str x]
  | .of w ks => .tup [.str "of", .str w, .tup (nW ks)]
def arms : Tm → List Nat
  | .of _ ks => ks
  | _ => []
def tW (ts : List Tm) : List AL.W := ts.map Tm.W
theorem tW_length (ts : List Tm) : (tW ts).length = ts.length := by simp [tW]
theorem tW_get {ts : List Tm} {i : Nat} {t : Tm} (h : ts[i]? = some t) : (tW ts)[i]? = some t.W := by simp [tW, h]
theorem tW_at {ts : List Tm} {i : Nat} {t : Tm} (h : ts[i]? = some t) : atI (tW ts) (i : Int) = some t.W := atI_of (tW_get h)
theorem ixN_nat {n j : Nat} (h : j < n) : ixN n (j : Int) = some j := by
  unfold ixN
  rw [if_pos (Int.natCast_nonneg j), if_pos (by omega)]
  rfl
/-! ### mark -/
abbrev sMark : Stmt := top 15
theorem sc_mark : FnScope ["term", "leads", "arm"] ["term", "leads"] (defScope sMark) := ⟨rfl, rfl, rfl, by decide +kernel, rfl, by decide +kernel, by decide +kernel⟩
def spMark : ASp := fun ws G K _ => ∃ (t : Tm) (l : W) (ls : List Nat), ws = [t.W, l] ∧ LsA G l (nW ls) ∧ (∀ k ∈ arms t, k < ls.length) ∧ (arms t).length ≤ 4 ∧ K (mk ls t).W G
section
variable {P : Program} {w : World} {K : PySem.W.Frag} {mg : Str → Option Value} {base : Heap}
theorem ok_mark {f : Addr} {fd : FuncData} (F : Fun K "mark" "mark" sMark f fd) (B : Bl mg) : FnOk P w K mg base CX0 1 f fd ["term", "leads"] (low ⟨P, w, K⟩ spMark) := by
  refine fnA_of F sc_mark (fun ws G Kc KE ⟨t, a, ls, e, _⟩ => by rw [e]; rfl) fun cdv A outer s H E ws G Kc KE hr ⟨t, a, ls, e, hL, hk, h4, k⟩ => ?_
  subst e
  refine s_cons (s_if (b_ne (u64 hr) (q_ix (qv 0 rfl (q_int ?_)))))
  cases t with
  | num n => exact q_str (ifB_T (by decide +kernel) (s_cons (s_ret (qv 0 rfl ⟨G, Sub.refl, k⟩))))
  | name x => exact q_str (ifB_T (by decide +kernel) (s_cons (s_ret (qv 0 rfl ⟨G, Sub.refl, k⟩))))
  | of wd ks =>
    refine q_str (ifB_F (by decide +kernel) ?_)
    refine s_nil ?_
    refine s_cons (s_ret (q_tup (a_cons (q_str (a_cons (q_ix (qv 0 rfl (q_int ?_))))))))
    refine a_cons (q_tuple B.tuple (a_cons (q_lc sc_mark.nd (blkOk_by (N := ["term", "leads", "arm"]) (sc := defScope sMark) (own := [("arm", 2)]) (by decide +kernel)) (i_tup (q_ix (qv 0 rfl (q_int ?_)))))))
    refine lk_mapZ (zs := ks) (fun (k : Nat) => W.int k) (fun k => W.int (ls.getD k 0 : Nat)) sc_mark.nd (Nat.le_trans h4 (by decide)) (fun _ _ _ => trivial) (fun z hz D ws hD s0 H0 C cl fp => ?_) (fun D hD => ?_)
    · refine q_ix (qv 1 rfl (qv 2 rfl ?_))
      exact fIx_ls (hL.new hD) (nW_at (hk z hz)) ⟨rfl, rfl⟩
    · refine a_nil ⟨_, aup_same, ?_⟩
      refine a_nil ⟨G, Sub.new hD, ?_⟩
      have e : ks.map (fun k => W.int (ls.getD k 0 : Nat)) = nW (ks.map fun k => ls.getD k 0) := by simp [nW]
      rw [e]
      exact k
/-! ### unite -/
abbrev sUnite : Stmt := top 16
theorem sc_unite : FnScope ["leads", "one", "other", "low", "high", "k"] ["leads", "one", "other"] (defScope sUnite) := ⟨rfl, rfl, rfl, by decide +kernel, rfl, by decide +kernel, by decide +kernel⟩
def spUnite : ASp := fun ws G K _ => ∃ (a : Addr) (ls : List Nat) (i j : Nat), ws = [.ref a, .int i, .int j] ∧ G a = some (.lst (nW ls)) ∧ i < ls.length ∧ j < ls.length ∧ ls.length ≤ 1000 ∧ K .non (aup G a (.lst (nW (uni ls i j))))
theorem min_cast (i j : Nat) : (if (j : Int) < (i : Int) then (j : Int) else (i : Int)) = ((min i j : Nat) : Int) := by split <;> omega
theorem max_cast (i j : Nat) : (if (j : Int) > (i : Int) then (j : Int) else (i : Int)) = ((max i j : Nat) : Int) := by split <;> omega
theorem aup_id {G : AH} {a : Addr} {o : AO} (h : G a = some o) : aup G a o = G := by
  funext b
  unfold aup
  split
  · rename_i e; rw [e, h]
  · rfl
/-- the first k have changed -/
def partU (ls : List Nat) (i j k : Nat) : List Nat := (ls.take k).map (fun x => if x = max (ls.getD i 0) (ls.getD j 0) then min (ls.getD i 0) (ls.getD j 0) else x) ++ ls.drop k
theorem partU_zero (ls : List Nat) (i j : Nat) : partU ls i j 0 = ls := by simp [partU]
theorem partU_end {ls : List Nat} {i j : Nat} (e : ¬ ls.getD i 0 = ls.getD j 0) : partU ls i j ls.length = uni ls i j := by
  unfold partU uni
  rw [if_neg e, List.take_length, List.drop_length, List.append_nil]
theorem partU_len (ls : List Nat) (i j k : Nat) : (partU ls i j k).length = ls.length := by
  unfold partU
  rw [List.length_append, List.length_map, List.length_take, List.length_drop]
  omega
theorem partU_at {ls : List Nat} {i j k : Nat} (h : k < ls.length) : (partU ls i j k).getD k 0 = ls.getD k 0 := by
  unfold partU
  have e : ((ls.take k).map (fun x => if x = max (ls.getD i 0) (ls.getD j 0) then min (ls.getD i 0) (ls.getD j 0) else x)).length = k := by
    rw [List.length_map, List.length_take]; omega
  rw [List.getD, List.getElem?_append_right (by omega), e, Nat.sub_self, List.getElem?_drop, Nat.add_zero]
  rfl
theorem partU_succ {ls : List Nat} {i j k : Nat} (h : k < ls.length) : partU ls i j (k + 1) = (partU ls i j k).set k (if ls.getD k 0 = max (ls.getD i 0) (ls.getD j 0) then min (ls.getD i 0) (ls.getD j 0) else ls.getD k 0) := by
  unfold partU
  have e : ((ls.take k).map (fun x => if x = max (ls.getD i 0) (ls.getD j 0) then min (ls.getD i 0) (ls.getD j 0) else x)).length = k := by
    rw [List.length_map, List.length_take]; omega
  have d : ls.drop k = ls.getD k 0 :: ls.drop (k + 1) := by
    rw [List.drop_eq_getElem_cons h]
    congr 1
    simp [List.getD, h]
  have g : ls[k]? = some (ls.getD k 0) := by simp [List.getD, h]
  rw [List.set_append_right _ _ (by omega), e, Nat.sub_self, d, List.set_cons_zero, List.take_succ, g, Option.toList_some, List.map_append, List.append_assoc]
  rfl
theorem set_same {ls : List Nat} {k : Nat} (h : k < ls.length) : ls.set k (ls.getD k 0) = ls := by
  refine List.ext_getElem (by simp) fun m h1 h2 => ?_
  rw [List.getElem_set]
  split
  · rename_i e; subst e; simp [List.getD, h]
  · rfl
theorem ok_unite {f : Addr} {fd : FuncData} (F : Fun K "unite" "unite" sUnite f fd) (B : Bl mg) : FnOk P w K mg base CX0 1 f fd ["leads", "one", "other"] (low ⟨P, w, K⟩ spUnite) := by
  refine fnA_of F sc_unite (fun ws G Kc KE ⟨a, ls, i, j, e, _⟩ => by rw [e]; rfl) fun cdv A outer s H E ws G Kc KE hr ⟨a, ls, i, j, e, hL, hi, hj, hn, k⟩ => ?_
  subst e
  refine s_cons (s_set (i := 3) sc_unite.nd (q_min2 B.min (a_cons (q_ix (qv 0 rfl (qv 1 rfl ⟨_, _, hL, nW_at hi, ?_⟩))))))
  refine a_cons (q_ix (qv 0 rfl (qv 2 rfl ⟨_, _, hL, nW_at hj, ?_⟩)))
  refine a_nil ?_
  refine SQ.st [some (.ref a), some (.int i), some (.int j), some (.int (min (ls.getD i 0) (ls.getD j 0) : Nat)), none, none] (by rw [← min_cast]; rfl) ?_
  refine s_cons (s_set (i := 4) sc_unite.nd (q_max2 B.max (a_cons (q_ix (qv 0 rfl (qv 1 rfl ⟨_, _, hL, nW_at hi, ?_⟩))))))
  refine a_cons (q_ix (qv 0 rfl (qv 2 rfl ⟨_, _, hL, nW_at hj, ?_⟩)))
  refine a_nil ?_
  refine SQ.st [some (.ref a), some (.int i), some (.int j), some (.int (min (ls.getD i 0) (ls.getD j 0) : Nat)), some (.int (max (ls.getD i 0) (ls.getD j 0) : Nat)), none] (by rw [← max_cast]; rfl) ?_
  refine s_cons (s_if (b_eq (u64 hr) (qv 3 rfl (qv 4 rfl ?_))))
  refine ifB_dec (fun e => ?_) (fun e => ?_)
  · refine s_cons (s_retN ⟨_, Sub.refl, ?_⟩)
    have e' : ls.getD i 0 = ls.getD j 0 := by omega
    have q : uni ls i j = ls := by unfold uni; rw [if_pos e']
    rw [q, aup_id hL] at k
    exact k
  · refine s_nil ?_
    have e' : ¬ ls.getD i 0 = ls.getD j 0 := fun z => e (by rw [z, Nat.min_self, Nat.max_self])
    refine s_cons (s_for PassesOwn.never rfl (i_range1 rfl B.range (q_len B.len (a_cons (qv 0 rfl (a_nil ⟨_, hL, ?_⟩)))) rfl))
    have n1 : ((nW ls).length : Int) = (ls.length : Int) := by rw [nW_length]
    refine ⟨by omega, by rw [n1]; omega, fun k ρ' G' => ∃ v, ρ' = [some (.ref a), some (.int i), some (.int j), some (.int (min (ls.getD i 0) (ls.getD j 0) : Nat)), some (.int (max (ls.getD i 0) (ls.getD j 0) : Nat)), v] ∧ G' = aup G a (.lst (nW (partU ls i j k))), ⟨none, rfl, ?_⟩, fun _ _ _ _ _ => trivial, fun m x ρ' G' hx ⟨v, e1, e2⟩ => ?_, fun ρ' G' ⟨v, e1, e2⟩ => ?_⟩
    · rw [partU_zero, aup_id hL]
    · obtain ⟨hm, rfl⟩ := rng0_item hx
      have hm : m < ls.length := by rw [nW_length] at hm; simpa using hm
      subst e1 e2
      refine g_name (i := 5) sc_unite.nd ?_
      have hm2 : m < (partU ls i j m).length := by rw [partU_len]; exact hm
      refine s_cons (s_if (b_eq (u64 hr) (q_ix (qv 0 rfl (qv 5 rfl ⟨_, _, aup_same, nW_at hm2, ?_⟩)))))
      refine qv 4 rfl ?_
      refine ifB_dec (fun z => ?_) (fun z => ?_)
      · rw [partU_at hm] at z
        refine s_cons (s_asg (qv 3 rfl (g_ix (qv 0 rfl (qv 5 rfl ⟨_, _, aup_same, by rw [nW_length, partU_len]; exact ixN_nat hm, ?_⟩)))))
        refine s_nil (s_nil ⟨_, rfl, ?_⟩)
        rw [aup_aup, nW_set, partU_succ hm, if_pos (by omega)]
      · rw [partU_at hm] at z
        refine s_nil (s_nil ⟨_, rfl, ?_⟩)
        rw [partU_succ hm, if_neg (by omega)]
        rw [← partU_at (i := i) (j := j) hm, set_same hm2]
    · refine s_nil ⟨G', Sub.refl, ?_⟩
      have : ((nW ls).length : Int).toNat = ls.length := by rw [nW_length]; simp
      rw [rngW_length, this] at e2
      rw [e2, partU_end e']
      exact k

/-! ### unite_like -/
abbrev sUl : Stmt := top 17
theorem sc_ul : FnScope ["terms", "leads", "seen", "met", "k", "own"] ["terms", "leads"] (defScope sUl) := ⟨rfl, rfl, rfl, by decide +kernel, rfl, by decide +kernel, by decide +kernel⟩
/-- the terms that are handed in: each with at most four arms, each arm ahead, at most 400 of them -/
structure TsOk (ts : List Tm) : Prop where
  wf : WfT ts
  four : ∀ (i : Nat) (w : Str) (ks : List Nat), ts[i]? = some (Tm.of w ks) → ks.length ≤ 4
  many : ts.length ≤ 400
theorem _root_.AL.LsA.offs {G G' : AH} {w : AL.W} {xs : List AL.W} {l : List Addr} (h : LsA G w xs) (o : Offs l G G') (n : ∀ q ∈ l, w ≠ .ref q) : LsA G' w xs := by
  cases w with
  | lst ys => exact h
  | ref a => exact (o a fun hm => n a hm rfl).trans h
  | _ => exact h.elim
def spUl : ASp := fun ws G K _ => ∃ (b : W) (a : Addr) (ts : List Tm) (ls : List Nat), ws = [b, .ref a] ∧ b ≠ .ref a ∧ LsA G b (tW ts) ∧ G a = some (.lst (nW ls)) ∧ Good ts.length ls ∧ TsOk ts ∧ K (.bl (ulAll ts ls).met) (aup G a (.lst (nW (ulAll ts ls).ls)))
end
theorem nW_inj : ∀ {ks js : List Nat}, nW ks = nW js → ks = js
  | [], [], _ => rfl
  | k :: ks, j :: js, h => by
    simp only [nW, List.map_cons, List.cons.injEq, W.int.injEq] at h
    rw [nW_inj (ks := ks) (js := js) h.2, Int.ofNat_inj.mp h.1]
  | [], _ :: _, h => by simp [nW] at h
  | _ :: _, [], h => by simp [nW] at h
theorem strs_ne : ¬ (Str.ofString "num") = (Str.ofString "name") ∧ ¬ (Str.ofString "num") = (Str.ofString "of") ∧ ¬ (Str.ofString "name") = (Str.ofString "of") := by decide +kernel
theorem Tm.W_inj {t u : Tm} (h : t.W = u.W) : t = u := by
  obtain ⟨n1, n2, n3⟩ := strs_ne
  cases t <;> cases u <;> simp only [Tm.W, W.tup.injEq, List.cons.injEq, W.str.injEq, W.int.injEq, and_true, List.nil_eq, reduceCtorEq, and_false, false_and] at h
  · rw [h.2]
  · rw [h.2]
  · rw [h.2.1, nW_inj h.2.2]
theorem kbls_nW : ∀ ks : List Nat, kbls (nW ks) = true
  | [] => rfl
  | k :: ks => by show (true && kbls (nW ks)) = true; rw [kbls_nW ks]; rfl
theorem depth_nW : ∀ ks : List Nat, NestedKey.depthAll (nks (nW ks)) = 0
  | [] => rfl
  | k :: ks => by show max 0 (NestedKey.depthAll (nks (nW ks))) = 0; rw [depth_nW ks]; rfl
theorem keyOk_W (t : Tm) : keyOk t.W = true := by
  cases t with
  | num n => rfl
  | name x => rfl
  | of w ks =>
    show ((true && (true && (kbls (nW ks) && true))) && Nat.ble (max 0 (max 0 (max (NestedKey.depthAll (nks (nW ks)) + 1) 0))) 7) = true
    rw [kbls_nW, depth_nW]; rfl
def seenW (s : List (Tm × Nat)) : List (W × W) := s.map fun p => (p.1.W, .int (p.2 : Nat))
theorem lk_seen (s : List (Tm × Nat)) (m : Tm) : lk (seenW s) m.W = (lkT s m).map fun (k : Nat) => W.int k := by
  induction s with
  | nil => rfl
  | cons p s ih =>
    show lk ((p.1.W, W.int p.2) :: seenW s) m.W = _
    rw [lk_cons, ih]
    unfold lkT
    by_cases e : p.1 = m
    · rw [if_pos (by rw [e])]; simp [e]
    · rw [if_neg (fun z => e (Tm.W_inj z))]; simp [e]
section
variable {P : Program} {w : World} {K : PySem.W.Frag} {mg : Str → Option Value} {base : Heap}
theorem mk_arms {ts : List Tm} (T : TsOk ts) {ls : List Nat} (g : ls.length = ts.length) {k : Nat} {t : Tm} (h : ts[k]? = some t) : (∀ j ∈ arms t, j < ls.length) ∧ (arms t).length ≤ 4 := by
  have lk := (List.getElem?_eq_some_iff.mp h).1
  cases t with
  | num n => exact ⟨(fun j hj => by cases hj), Nat.zero_le _⟩
  | name n => exact ⟨(fun j hj => by cases hj), Nat.zero_le _⟩
  | of w ks => exact ⟨(fun j hj => by have := T.wf k w ks h j hj; omega), T.four k w ks h⟩
theorem seen_le {ts : List Tm} {ls : List Nat} : ∀ k, (ulPass ts ls k).seen.length ≤ k
  | 0 => Nat.le_refl _
  | k + 1 => by
    have ih := seen_le (ts := ts) (ls := ls) k
    show (ulStep ts (ulPass ts ls k) k).seen.length ≤ k + 1
    unfold ulStep
    split
    · simp only [List.length_append, List.length_singleton]; omega
    · split
      · omega
      · simp only; omega
theorem ok_ul {f : Addr} {fd : FuncData} (F : Fun K "unite_like" "unite_like" sUl f fd) (B : Bl mg) (CM : Cal P w K mg base "mark" 1 ["term", "leads"] spMark) (CU : Cal P w K mg base "unite" 1 ["leads", "one", "other"] spUnite) : FnOk P w K mg base CX0 2 f fd ["terms", "leads"] (low ⟨P, w, K⟩ spUl) := by
  refine fnA_of F sc_ul (fun ws G Kc KE ⟨b, a, ts, ls, e, _⟩ => by rw [e]; rfl) fun cdv A outer s H E ws G Kc KE hr ⟨b, a, ts, ls, e, hba, hT, hL, good, T, k⟩ => ?_
  subst e
  refine s_cons (s_set (i := 2) sc_ul.nd (q_dnewN fun d hd => ?_))
  refine s_cons (s_set (i := 3) sc_ul.nd (q_bl ?_))
  have hda : d ≠ a := (ane_none hL hd).symm
  have hdb : b ≠ .ref d := hT.ne hd
  refine s_cons (s_for PassesOwn.never rfl (i_range1 rfl B.range (q_len B.len (a_cons (qv 0 rfl (a_nil (fLen_ls (hT.new hd) ?_))))) rfl))
  have n1 : ((tW ts).length : Int) = (ts.length : Int) := by rw [tW_length]
  have many := T.many
  refine ⟨by omega, by rw [n1]; omega, fun m ρ' G' => ∃ v v', ρ' = [some b, some (.ref a), some (.ref d), some (.bl (ulPass ts ls m).met), v, v'] ∧ G' a = some (.lst (nW (ulPass ts ls m).ls)) ∧ G' d = some (.dN (seenW (ulPass ts ls m).seen)) ∧ Offs [d, a] G G', ⟨none, none, rfl, aup_new hd hL, aup_same, Offs.new Offs.refl⟩, fun _ _ _ _ _ => trivial, fun m x ρ' G' hx ⟨v, v', e1, ga, gd, off⟩ => ?_, fun ρ' G' ⟨v, v', e1, ga, gd, off⟩ => ?_⟩
  · obtain ⟨hm, rfl⟩ := rng0_item hx
    have hm : m < ts.length := by rw [tW_length] at hm; simpa using hm
    obtain ⟨t, ht⟩ : ∃ t, ts[m]? = some t := ⟨ts[m], by simp [hm]⟩
    have PO := pass_ok T.wf good m (by omega)
    have hb : LsA G' b (tW ts) := hT.offs off fun q hq => by
      have : q = d ∨ q = a := by simpa using hq
      rcases this with e | e <;> rw [e]
      · exact hdb
      · exact hba
    subst e1
    refine g_name (i := 4) sc_ul.nd ?_
    obtain ⟨ar1, ar2⟩ := mk_arms T PO.good.len ht
    refine s_cons (s_set (i := 5) sc_ul.nd (q_cal CM hr (a_cons (q_ix (qv 0 rfl (qv 4 rfl (fIx_ls hb (tW_at ht) ?_)))))))
    refine a_cons (qv 1 rfl (a_nil ⟨t, .ref a, _, rfl, ga, ar1, ar2, ?_⟩))
    refine s_cons (s_if (b_dninN (u9 hr) (qv 5 rfl (qv 2 rfl ⟨_, gd, keyOk_W _, ?_⟩))))
    have step : ulPass ts ls (m + 1) = ulStep ts (ulPass ts ls m) m := rfl
    have SL := seen_le (ts := ts) (ls := ls) m
    generalize ulPass ts ls m = st at PO ga gd ar1 step SL ⊢
    rw [lk_seen]
    cases hl : lkT st.seen (mk st.ls t) with
    | none =>
      refine ifT ?_
      have step2 : ulStep ts st m = { st with seen := st.seen ++ [(mk st.ls t, m)] } := by unfold ulStep; rw [getD_of ht, hl]
      have hlen : (seenW st.seen).length < sizeLine := by
        have : (seenW st.seen).length ≤ 400 := by show (st.seen.map _).length ≤ 400; rw [List.length_map]; omega
        exact Nat.lt_of_le_of_lt this (by decide)
      refine s_cons (s_asg (qv 4 rfl (g_dputN (u9 hr) (qv 2 rfl (qv 5 rfl ⟨_, gd, keyOk_W _, hlen, ?_⟩)))))
      refine s_nil (s_nil ⟨some (.int m), some (mk st.ls t).W, ?_, ?_, ?_, ?_⟩)
      · rw [step, step2]; rfl
      · rw [step, step2]; exact aup_old hda.symm ga
      · rw [step, step2, aup_same, pk_new _ (by rw [lk_seen, hl]; rfl)]
        show _ = some (AO.dN (List.map _ (st.seen ++ [(mk st.ls t, m)])))
        rw [List.map_append]; rfl
      · exact off.put (by simp)
    | some z =>
      refine ifF ?_
      have hz : z < m := PO.seen _ (lkT_mem hl)
      have lenS : st.ls.length = ts.length := PO.good.len
      refine s_cons (s_if (b_ne (u64 hr) (q_ix (qv 1 rfl (q_dgetN (u9 hr) (qv 2 rfl (qv 5 rfl ⟨_, W.int z, gd, keyOk_W _, by rw [lk_seen, hl]; rfl, ?_⟩)))))))
      refine ⟨_, _, ga, nW_at (by omega), ?_⟩
      refine q_ix (qv 1 rfl (qv 4 rfl ⟨_, _, ga, nW_at (by omega), ?_⟩))
      refine ifB_ndec (fun e => ?_) (fun e => ?_)
      · have step2 : ulStep ts st m = { st with ls := uni st.ls z m, met := true } := by
          unfold ulStep
          rw [getD_of ht, hl]
          show (if _ then _ else _) = _
          rw [if_neg (by omega)]
        refine s_cons (s_expr (q_cal CU hr (a_cons (qv 1 rfl (a_cons (q_dgetN (u9 hr) (qv 2 rfl (qv 5 rfl ⟨_, W.int z, gd, keyOk_W _, by rw [lk_seen, hl]; rfl, ?_⟩))))))))
        refine a_cons (qv 4 rfl (a_nil ⟨a, _, z, m, rfl, ga, by omega, by omega, by omega, ?_⟩))
        refine s_cons (s_set (i := 3) sc_ul.nd (q_bl ?_))
        refine s_nil (s_nil (s_nil ⟨some (.int m), some (mk st.ls t).W, ?_, ?_, ?_, ?_⟩))
        · rw [step, step2]; rfl
        · rw [step, step2, aup_same]
        · rw [step, step2]; exact aup_old hda gd
        · exact off.put (by simp)
      · have step2 : ulStep ts st m = st := by
          unfold ulStep
          rw [getD_of ht, hl]
          show (if _ then _ else _) = _
          rw [if_pos (by omega)]
        refine s_nil (s_nil (s_nil ⟨some (.int m), some (mk st.ls t).W, ?_, ?_, ?_, off⟩))
        · rw [step, step2]; rfl
        · rw [step, step2]; exact ga
        · rw [step, step2]; exact gd
  · have n2 : (rngW 0 1 ((tW ts).length : Int).toNat).length = ts.length := by rw [rngW_length, tW_length]; simp
    rw [n2] at e1 ga gd
    subst e1
    refine s_cons (s_ret (qv 3 rfl ⟨_, off.sub1 ga (fun q hq hqa => ?_), k⟩))
    have : q = d := by simpa [hqa] using hq
    rw [this]; exact hd

/-! ### closed -/
abbrev sClosed : Stmt := top 18
theorem sc_closed : FnScope ["terms", "edges", "leads", "edge"] ["terms", "edges"] (defScope sClosed) := ⟨rfl, rfl, rfl, by decide +kernel, rfl, by decide +kernel, by decide +kernel⟩
/-- an edge: its ends, its weight, why -/
structure Ed where
  a : Nat
  b : Nat
  w : Int
  why : W
def Ed.W (e : Ed) : AL.W := .tup [.int e.a, .int e.b, .int e.w, e.why]
def eW (es : List Ed) : List AL.W := es.map Ed.W
def ends (es : List Ed) : List (Nat × Nat) := es.map fun e => (e.a, e.b)
def spClosed : ASp := fun ws G K _ => ∃ (b c : W) (ts : List Tm) (es : List Ed), ws = [b, c] ∧ LsA G b (tW ts) ∧ LsA G c (eW es) ∧ TsOk ts ∧ (∀ e ∈ es, e.a < ts.length ∧ e.b < ts.length) ∧ ∀ p, G p = none → K (.ref p) (aup G p (.lst (nW (closedM ts (ends es)))))
theorem ok_closed {f : Addr} {fd : FuncData} (F : Fun K "closed" "closed" sClosed f fd) (B : Bl mg) (CU : Cal P w K mg base "unite" 1 ["leads", "one", "other"] spUnite) (CL : Cal P w K mg base "unite_like" 2 ["terms", "leads"] spUl) : FnOk P w K mg base CX0 3 f fd ["terms", "edges"] (low ⟨P, w, K⟩ spClosed) := by
  refine fnA_of F sc_closed (fun ws G Kc KE ⟨b, c, ts, es, e, _⟩ => by rw [e]; rfl) fun cdv A outer s H E ws G Kc KE hr ⟨b, c, ts, es, e, hT, hE, T, he, k⟩ => ?_
  subst e
  have many := T.many
  have n1 : ((tW ts).length : Int) = (ts.length : Int) := by rw [tW_length]
  refine s_cons (s_set (i := 2) sc_closed.nd (q_lrg1 B.range B.list (q_len B.len (a_cons (qv 0 rfl (a_nil (fLen_ls hT ?_))))) rfl))
  refine ⟨RgOk.of_le (by omega) (by omega) (by omega) (by omega), fun a ha => ?_⟩
  have r0 : rngW 0 1 ((tW ts).length : Int).toNat = nW (List.range ts.length) := by
    rw [tW_length]
    simp [rngW, nW]
  rw [r0]
  have hab : b ≠ .ref a := hT.ne ha
  have ends_at : ∀ (m : Nat) (e : Ed), es[m]? = some e → ends (es.take (m + 1)) = ends (es.take m) ++ [(e.a, e.b)] := fun m e h => by
    unfold ends
    rw [List.take_succ, h, List.map_append]; rfl
  have good : ∀ m, Good ts.length (edged (List.range ts.length) (ends (es.take m))) := fun m => (edged_ok _ _ (Good.range _) fun e hx => by
    obtain ⟨x, hx', rfl⟩ := List.mem_map.mp hx
    exact he x (List.mem_of_mem_take hx')).1
  refine s_cons (s_for PassesOwn.never rfl (i_list (qv 1 rfl ⟨_, hE.new ha, ?_⟩)))
  refine ⟨fun m ρ' G' => ∃ v, ρ' = [some b, some c, some (.ref a), v] ∧ G' = aup G a (.lst (nW (edged (List.range ts.length) (ends (es.take m))))), ⟨none, rfl, rfl⟩, fun m ρ' G' _ ⟨v, e1, e2⟩ => ?_, fun m x ρ' G' hx ⟨v, e1, e2⟩ => ?_, fun ρ' G' ⟨v, e1, e2⟩ => ?_⟩
  · rw [e2]; exact hE.new ha
  · subst e1 e2
    obtain ⟨e, hm, rfl⟩ : ∃ e, es[m]? = some e ∧ e.W = x := by
      rw [eW, List.getElem?_map] at hx
      exact Option.map_eq_some_iff.mp hx
    have hee := he e (List.mem_of_getElem? hm)
    have gl := (good m).len
    refine g_name (i := 3) sc_closed.nd ?_
    refine s_cons (s_expr (q_cal CU (hr.mono (by decide)) (a_cons (qv 2 rfl (a_cons (q_ix (qv 3 rfl (q_int ?_))))))))
    refine a_cons (q_ix (qv 3 rfl (q_int ?_)))
    refine a_nil ⟨a, _, e.a, e.b, rfl, aup_same, by rw [gl]; exact hee.1, by rw [gl]; exact hee.2, by omega, ?_⟩
    refine s_nil ⟨_, rfl, ?_⟩
    rw [aup_aup, ends_at m e hm]
    unfold edged
    rw [List.foldl_append]
    rfl
  · rw [show (eW es).length = es.length from by simp [eW], List.take_length] at e2
    subst e1 e2
    have g0 : Good ts.length (edged (List.range ts.length) (ends es)) := by have := good es.length; rw [List.take_length] at this; exact this
    -- the loop: ulLoop with any fuel beyond the sum
    have key : closedM ts (ends es) = ulLoop ts ((edged (List.range ts.length) (ends es)).sum + 1) (edged (List.range ts.length) (ends es)) := rfl
    generalize edged (List.range ts.length) (ends es) = l0 at g0 key ⊢
    refine s_cons (s_while PassesOwn.never (fun ρ' G' => ∃ ls f, ρ' = [some b, some c, some (.ref a), v] ∧ G' = aup G a (.lst (nW ls)) ∧ Good ts.length ls ∧ ls.sum < f ∧ closedM ts (ends es) = ulLoop ts f ls) (fun ρ' G' => match G' a with | some (.lst ws) => (ws.map fun x => match x with | .int i => i.toNat | _ => 0).sum | _ => 0) ⟨l0, _, rfl, rfl, g0, Nat.lt_succ_self _, key⟩ ?_)
    rintro ρ' G' ⟨ls, f, rfl, rfl, gl, hf, kf⟩
    have gsum : ∀ ls' : List Nat, (match (aup G a (.lst (nW ls'))) a with | some (.lst ws) => (ws.map fun x => match x with | .int i => i.toNat | _ => 0).sum | _ => 0) = ls'.sum := fun ls' => by
      rw [aup_same]
      show ((nW ls').map _).sum = _
      rw [nW, List.map_map]
      congr 1
      conv => rhs; rw [← List.map_id ls']
      rfl
    refine b_val (q_cal CL hr (a_cons (qv 0 rfl (a_cons (qv 2 rfl (a_nil ⟨b, a, ts, ls, rfl, hab, hT.new ha, aup_same, gl, T, ?_⟩))))))
    have PO := pass_ok T.wf gl ts.length (Nat.le_refl _)
    cases f with
    | zero => omega
    | succ f =>
      unfold ulLoop at kf
      refine ifB_of (fun m => ?_) (fun m => ?_)
      · rw [if_pos m] at kf
        have hs : (ulAll ts ls).ls.sum < ls.sum := PO.yes m
        refine s_cons (s_pass (s_nil ⟨⟨(ulAll ts ls).ls, f, rfl, by rw [aup_aup], PO.good, by omega, kf⟩, ?_⟩))
        rw [aup_aup, gsum, gsum]
        exact hs
      · rw [if_neg (by rw [m]; exact Bool.false_ne_true)] at kf
        refine s_cons (s_ret (qv 2 rfl ⟨_, Sub.refl, ?_⟩))
        rw [aup_aup, ← kf]
        exact k a ha
end
end SW
namespace SW
open PySem PySem.Spec L2 AL
/-! ### prices, plain -/
def priceM (c : Nat) : List (Option Nat) → Option Nat
  | [] => some c
  | none :: _ => none
  | some v :: r => priceM (c + v) r
theorem priceM_some (c p : Nat) : ∀ xs : List (Option Nat), priceM c xs = some p ↔ ∃ vs : List Nat, xs = vs.map some ∧ p = c + vs.sum := by
  intro xs
  induction xs generalizing c with
  | nil => exact ⟨fun h => ⟨[], rfl, (Option.some.inj h).symm⟩, fun ⟨vs, h, e⟩ => by
      cases vs with
      | nil => rw [e]; rfl
      | cons v vs => cases h⟩
  | cons x xs ih =>
    cases x with
    | none =>
      constructor
      · intro h; cases h
      · rintro ⟨vs, h, _⟩
        cases vs with
        | nil => cases h
        | cons v vs => cases h
    | some v =>
      show priceM (c + v) xs = some p ↔ _
      rw [ih]
      constructor
      · rintro ⟨vs, h, e⟩; exact ⟨v :: vs, by rw [h]; rfl, by rw [e, List.sum_cons]; omega⟩
      · rintro ⟨vs, h, e⟩
        cases vs with
        | nil => cases h
        | cons u vs =>
          rw [List.map_cons, List.cons.injEq, Option.some.injEq] at h
          obtain ⟨rfl, h⟩ := h
          exact ⟨vs, h, by rw [e, List.sum_cons]; omega⟩
abbrev Lf (ls : List Nat) (k : Nat) : Nat := ls.getD k 0
abbrev tmAt (ts : List Tm) (k : Nat) : Tm := ts.getD k (.num 0)
/-- what a term costs by b -/
def prO (ts : List Tm) (ls : List Nat) (c : Tm → Nat) (b : Nat → Option Nat) (k : Nat) : Option Nat := priceM (c (tmAt ts k)) ((arms (tmAt ts k)).map fun a => b (Lf ls a))
def prN (ts : List Tm) (ls : List Nat) (c : Tm → Nat) (B : Nat → Nat) (k : Nat) : Nat := c (tmAt ts k) + ((arms (tmAt ts k)).map fun a => B (Lf ls a)).sum
structure BSt where
  b : Nat → Option Nat
  f : Bool
def updB {α : Type} (b : Nat → Option α) (j : Nat) (v : α) : Nat → Option α := fun i => if i = j then some v else b i
def bpStep (ts : List Tm) (ls : List Nat) (c : Tm → Nat) (st : BSt) (k : Nat) : BSt :=
  match prO ts ls c st.b k with
  | none => st
  | some p => match st.b (Lf ls k) with
    | none => ⟨updB st.b (Lf ls k) p, true⟩
    | some v => if p < v then ⟨updB st.b (Lf ls k) p, true⟩ else st
def bpPass (ts : List Tm) (ls : List Nat) (c : Tm → Nat) (b : Nat → Option Nat) : Nat → BSt
  | 0 => ⟨b, false⟩
  | k + 1 => bpStep ts ls c (bpPass ts ls c b k) k
/-- b' holds as much as b, or less -/
def LeB (b' b : Nat → Option Nat) : Prop := ∀ j v, b j = some v → ∃ v', b' j = some v' ∧ v' ≤ v
theorem LeB.refl {b : Nat → Option Nat} : LeB b b := fun _ v h => ⟨v, h, Nat.le_refl _⟩
theorem LeB.trans {a b c : Nat → Option Nat} (h : LeB a b) (h' : LeB b c) : LeB a c := fun j v e => by
  obtain ⟨v1, e1, l1⟩ := h' j v e
  obtain ⟨v2, e2, l2⟩ := h j v1 e1
  exact ⟨v2, e2, by omega⟩
theorem prO_le {ts : List Tm} {ls : List Nat} {c : Tm → Nat} {b' b : Nat → Option Nat} (h : LeB b' b) {k p : Nat} (e : prO ts ls c b k = some p) : ∃ p', prO ts ls c b' k = some p' ∧ p' ≤ p := by
  unfold prO at e ⊢
  generalize c (tmAt ts k) = c0 at e ⊢
  generalize arms (tmAt ts k) = as at e ⊢
  have : ∀ c1, c1 ≤ c0 → ∃ p', priceM c1 (as.map fun a => b' (Lf ls a)) = some p' ∧ p' ≤ p := by
    induction as generalizing c0 with
    | nil => intro c1 h1; exact ⟨c1, rfl, by have := Option.some.inj e; omega⟩
    | cons a as ih =>
      intro c1 h1
      rw [List.map_cons] at e ⊢
      cases hb : b (Lf ls a) with
      | none => rw [hb] at e; cases e
      | some v =>
        rw [hb] at e
        obtain ⟨v', h2, h3⟩ := h _ _ hb
        rw [h2]
        exact ih (c0 + v) e (c1 + v') (by omega)
  exact this c0 (Nat.le_refl _)
section
variable {ts : List Tm} {ls : List Nat} {c : Tm → Nat}
theorem updB_same {α : Type} {b : Nat → Option α} {j : Nat} {v : α} : updB b j v j = some v := by unfold updB; rw [if_pos rfl]
theorem updB_ne {α : Type} {b : Nat → Option α} {j i : Nat} {v : α} (h : i ≠ j) : updB b j v i = b i := by unfold updB; rw [if_neg h]
/-- what is held is borne by some term -/
def Sup (ts : List Tm) (ls : List Nat) (c : Tm → Nat) (b : Nat → Option Nat) : Prop := ∀ j v, b j = some v → ∃ k, k < ts.length ∧ Lf ls k = j ∧ ∃ p, p ≤ v ∧ prO ts ls c b k = some p
theorem step_le (st : BSt) (k : Nat) : LeB (bpStep ts ls c st k).b st.b := by
  unfold bpStep
  cases prO ts ls c st.b k with
  | none => exact LeB.refl
  | some p =>
    cases hb : st.b (Lf ls k) with
    | none =>
      intro j v e
      by_cases z : j = Lf ls k
      · rw [z, hb] at e; cases e
      · exact ⟨v, by show updB _ _ _ _ = _; rw [updB_ne z]; exact e, Nat.le_refl _⟩
    | some v =>
      show LeB (if p < v then _ else _ : BSt).b _
      split
      · intro j u e
        by_cases z : j = Lf ls k
        · subst z; rw [hb] at e; cases e; exact ⟨p, updB_same, by omega⟩
        · exact ⟨u, by show updB _ _ _ _ = _; rw [updB_ne z]; exact e, Nat.le_refl _⟩
      · exact LeB.refl
theorem sup_upd {b : Nat → Option Nat} {k p : Nat} (hk : k < ts.length) (s : Sup ts ls c b) (hp : prO ts ls c b k = some p) (le : LeB (updB b (Lf ls k) p) b) : Sup ts ls c (updB b (Lf ls k) p) := fun j v e => by
  by_cases z : j = Lf ls k
  · subst z
    rw [updB_same] at e; cases e
    obtain ⟨p', h1, h2⟩ := prO_le le hp
    exact ⟨k, hk, rfl, p', h2, h1⟩
  · rw [updB_ne z] at e
    obtain ⟨k', h1, h2, p0, h3, h4⟩ := s j v e
    obtain ⟨p', h5, h6⟩ := prO_le le h4
    exact ⟨k', h1, h2, p', by omega, h5⟩
theorem step_sup (st : BSt) {k : Nat} (hk : k < ts.length) (s : Sup ts ls c st.b) : Sup ts ls c (bpStep ts ls c st k).b := by
  have le := step_le (ts := ts) (ls := ls) (c := c) st k
  unfold bpStep at le ⊢
  cases hp : prO ts ls c st.b k with
  | none => rw [hp] at le; exact s
  | some p =>
    rw [hp] at le
    cases hb : st.b (Lf ls k) with
    | none => rw [hb] at le; exact sup_upd hk s hp le
    | some v =>
      rw [hb] at le
      show Sup ts ls c (if p < v then _ else _ : BSt).b
      have le : LeB (if p < v then _ else _ : BSt).b st.b := le
      split
      · rename_i h; rw [if_pos h] at le; exact sup_upd hk s hp le
      · exact s
theorem pass_le (b : Nat → Option Nat) : ∀ m, LeB (bpPass ts ls c b m).b b
  | 0 => LeB.refl
  | m + 1 => (step_le _ m).trans (pass_le b m)
theorem pass_sup {b : Nat → Option Nat} (s : Sup ts ls c b) : ∀ m, m ≤ ts.length → Sup ts ls c (bpPass ts ls c b m).b
  | 0, _ => s
  | m + 1, h => step_sup _ (by omega) (pass_sup s m (by omega))
theorem step_dom (st : BSt) (k j : Nat) (h : (bpStep ts ls c st k).b j ≠ none) : st.b j ≠ none ∨ j = Lf ls k := by
  unfold bpStep at h
  cases hp : prO ts ls c st.b k with
  | none => rw [hp] at h; exact .inl h
  | some p =>
    rw [hp] at h
    by_cases z : j = Lf ls k
    · exact .inr z
    · left
      cases hb : st.b (Lf ls k) with
      | none => rw [hb] at h; exact fun e => h (by show updB _ _ _ _ = _; rw [updB_ne z]; exact e)
      | some v =>
        rw [hb] at h
        have h : (if p < v then (⟨updB st.b (Lf ls k) p, true⟩ : BSt) else st).b j ≠ none := h
        split at h
        · exact fun e => h (by show updB _ _ _ _ = _; rw [updB_ne z]; exact e)
        · exact h
/-- behind a pass each class has a price -/
theorem pass_tot (wf : WfT ts) (b : Nat → Option Nat) : ∀ m, m ≤ ts.length → ∀ k, k < m → (bpPass ts ls c b m).b (Lf ls k) ≠ none
  | 0, _, _, h => absurd h (Nat.not_lt_zero _)
  | m + 1, hm, k, hk => by
    have ih := pass_tot wf b m (by omega)
    by_cases e : k < m
    · intro z
      cases h : (bpPass ts ls c b m).b (Lf ls k) with
      | none => exact ih k e h
      | some v =>
        obtain ⟨v', h', _⟩ := step_le (ts := ts) (ls := ls) (c := c) (bpPass ts ls c b m) m _ _ h
        have z : (bpStep ts ls c (bpPass ts ls c b m) m).b (Lf ls k) = none := z
        rw [z] at h'; cases h'
    · have e : k = m := by omega
      subst e
      show (bpStep ts ls c (bpPass ts ls c b k) k).b (Lf ls k) ≠ none
      have ar : ∃ p, prO ts ls c (bpPass ts ls c b k).b k = some p := by
        have hk' : ts[k]? = some (tmAt ts k) := by simp [tmAt, List.getD, show k < ts.length by omega]
        have hw : ∀ a ∈ arms (tmAt ts k), a < k := fun a ha => by
          cases ht : tmAt ts k with
          | num n => rw [ht] at ha; cases ha
          | name n => rw [ht] at ha; cases ha
          | of w ks => rw [ht] at hk' ha; exact wf k w ks hk' a ha
        unfold prO
        generalize c (tmAt ts k) = c0
        generalize arms (tmAt ts k) = as at hw
        induction as generalizing c0 with
        | nil => exact ⟨c0, rfl⟩
        | cons a as ih2 =>
          rw [List.map_cons]
          cases h : (bpPass ts ls c b k).b (Lf ls a) with
          | none => exact absurd h (ih a (hw a List.mem_cons_self))
          | some v => exact ih2 (c0 + v) fun a' ha' => hw a' (List.mem_cons_of_mem _ ha')
      obtain ⟨p, hp⟩ := ar
      unfold bpStep
      rw [hp]
      cases hb : (bpPass ts ls c b k).b (Lf ls k) with
      | none => show updB _ _ _ _ ≠ none; rw [updB_same]; exact fun z => by cases z
      | some v =>
        show (if p < v then _ else _ : BSt).b _ ≠ none
        split
        · show updB _ _ _ _ ≠ none; rw [updB_same]; exact fun z => by cases z
        · rw [hb]; exact fun z => by cases z
/-- a pass that lets nothing fall -/
theorem pass_no {b : Nat → Option Nat} : ∀ m, (bpPass ts ls c b m).f = false → (bpPass ts ls c b m).b = b ∧ ∀ k, k < m → ∀ p, prO ts ls c b k = some p → ∃ v, b (Lf ls k) = some v ∧ v ≤ p
  | 0, _ => ⟨rfl, fun _ h => absurd h (Nat.not_lt_zero _)⟩
  | m + 1, h => by
    have key : (bpPass ts ls c b m).f = false ∧ bpPass ts ls c b (m + 1) = bpPass ts ls c b m ∧ ∀ p, prO ts ls c (bpPass ts ls c b m).b m = some p → ∃ v, (bpPass ts ls c b m).b (Lf ls m) = some v ∧ v ≤ p := by
      have h : (bpStep ts ls c (bpPass ts ls c b m) m).f = false := h
      show _ ∧ bpStep ts ls c (bpPass ts ls c b m) m = _ ∧ _
      unfold bpStep at h ⊢
      cases hp : prO ts ls c (bpPass ts ls c b m).b m with
      | none => rw [hp] at h; exact ⟨h, rfl, fun _ z => by cases z⟩
      | some p =>
        rw [hp] at h
        cases hb : (bpPass ts ls c b m).b (Lf ls m) with
        | none => rw [hb] at h; cases h
        | some v =>
          rw [hb] at h
          have h : (if p < v then (⟨updB _ (Lf ls m) p, true⟩ : BSt) else bpPass ts ls c b m).f = false := h
          show _ ∧ (if p < v then (⟨updB _ (Lf ls m) p, true⟩ : BSt) else bpPass ts ls c b m) = _ ∧ _
          split at h
          · cases h
          · rename_i hl
            rw [if_neg hl]
            exact ⟨h, rfl, fun p' z => by cases z; exact ⟨v, rfl, by omega⟩⟩
    obtain ⟨h1, h2, h3⟩ := key
    obtain ⟨i1, i2⟩ := pass_no m h1
    rw [h2, i1]
    rw [i1] at h3
    refine ⟨rfl, fun k hk p hp => ?_⟩
    by_cases e : k < m
    · exact i2 k e p hp
    · have : k = m := by omega
      subst this
      exact h3 p hp
/-- the sum of what is held -/
def sumB (n : Nat) (ls : List Nat) (b : Nat → Option Nat) : Nat := ((List.range n).map fun k => (b (Lf ls k)).getD 0).sum
theorem sumB_le {n : Nat} {b' b : Nat → Option Nat} (le : LeB b' b) (tot : ∀ k, k < n → b (Lf ls k) ≠ none) : sumB n ls b' ≤ sumB n ls b := by
  unfold sumB
  have : ∀ l : List Nat, (∀ k ∈ l, k < n) → (l.map fun k => (b' (Lf ls k)).getD 0).sum ≤ (l.map fun k => (b (Lf ls k)).getD 0).sum := by
    intro l
    induction l with
    | nil => intro _; exact Nat.le_refl _
    | cons k l ih =>
      intro h
      have := ih fun x hx => h x (List.mem_cons_of_mem _ hx)
      rw [List.map_cons, List.map_cons, List.sum_cons, List.sum_cons]
      cases hb : b (Lf ls k) with
      | none => exact absurd hb (tot k (h k List.mem_cons_self))
      | some v =>
        obtain ⟨v', e, l'⟩ := le _ _ hb
        rw [e]
        show v' + _ ≤ v + _
        omega
  exact this _ fun k hk => List.mem_range.mp hk
theorem sumB_lt {n : Nat} {b' b : Nat → Option Nat} (le : LeB b' b) (tot : ∀ k, k < n → b (Lf ls k) ≠ none) {k v v' : Nat} (hk : k < n) (e : b (Lf ls k) = some v) (e' : b' (Lf ls k) = some v') (h : v' < v) : sumB n ls b' < sumB n ls b := by
  unfold sumB
  have : ∀ l : List Nat, (∀ k ∈ l, k < n) → k ∈ l → (l.map fun k => (b' (Lf ls k)).getD 0).sum < (l.map fun k => (b (Lf ls k)).getD 0).sum := by
    intro l
    induction l with
    | nil => intro _ h; cases h
    | cons i l ih =>
      intro hl hm
      have sub := fun x hx => hl x (List.mem_cons_of_mem _ hx)
      have mono : (l.map fun k => (b' (Lf ls k)).getD 0).sum ≤ (l.map fun k => (b (Lf ls k)).getD 0).sum := by
        clear ih hm hl
        induction l with
        | nil => exact Nat.le_refl _
        | cons k l ih =>
          have := ih fun x hx => sub x (List.mem_cons_of_mem _ hx)
          rw [List.map_cons, List.map_cons, List.sum_cons, List.sum_cons]
          cases hb : b (Lf ls k) with
          | none => exact absurd hb (tot k (sub k List.mem_cons_self))
          | some v =>
            obtain ⟨v', e, l'⟩ := le _ _ hb
            rw [e]
            show v' + _ ≤ v + _
            omega
      rw [List.map_cons, List.map_cons, List.sum_cons, List.sum_cons]
      rcases List.mem_cons.mp hm with z | hm
      · subst z
        rw [e, e']
        show v' + _ < v + _
        omega
      · have := ih sub hm
        cases hb : b (Lf ls i) with
        | none => exact absurd hb (tot i (hl i List.mem_cons_self))
        | some u =>
          obtain ⟨u', e2, l'⟩ := le _ _ hb
          rw [e2]
          show u' + _ < u + _
          omega
  exact this _ (fun k hk => List.mem_range.mp hk) (List.mem_range.mpr hk)
/-- a pass that lets something fall, where each class had a price -/
theorem pass_yes {b : Nat → Option Nat} (tot : ∀ k, k < ts.length → b (Lf ls k) ≠ none) : ∀ m, m ≤ ts.length → (bpPass ts ls c b m).f = true → sumB ts.length ls (bpPass ts ls c b m).b < sumB ts.length ls b
  | 0, _, h => by cases h
  | m + 1, hm, h => by
    have ih := pass_yes tot m (by omega)
    have le0 := pass_le (ts := ts) (ls := ls) (c := c) b m
    have tot' : ∀ k, k < ts.length → (bpPass ts ls c b m).b (Lf ls k) ≠ none := fun k hk z => by
      cases hb : b (Lf ls k) with
      | none => exact tot k hk hb
      | some v => obtain ⟨v', e, _⟩ := le0 _ _ hb; rw [z] at e; cases e
    have step := step_le (ts := ts) (ls := ls) (c := c) (bpPass ts ls c b m) m
    have le1 := sumB_le (ls := ls) (n := ts.length) step tot'
    have le2 := sumB_le (ls := ls) (n := ts.length) le0 tot
    show sumB ts.length ls (bpStep ts ls c (bpPass ts ls c b m) m).b < _
    cases hf : (bpPass ts ls c b m).f with
    | true => have := ih hf; omega
    | false =>
      suffices sumB ts.length ls (bpStep ts ls c (bpPass ts ls c b m) m).b < sumB ts.length ls (bpPass ts ls c b m).b by omega
      have h : (bpStep ts ls c (bpPass ts ls c b m) m).f = true := h
      revert step h
      unfold bpStep
      cases hp : prO ts ls c (bpPass ts ls c b m).b m with
      | none => intro _ h; rw [hf] at h; cases h
      | some p =>
        cases hb : (bpPass ts ls c b m).b (Lf ls m) with
        | none => exact absurd hb (tot' m (by omega))
        | some v =>
          show LeB (if p < v then (⟨updB _ (Lf ls m) p, true⟩ : BSt) else bpPass ts ls c b m).b _ → (if p < v then (⟨updB _ (Lf ls m) p, true⟩ : BSt) else bpPass ts ls c b m).f = true → sumB _ _ (if p < v then (⟨updB _ (Lf ls m) p, true⟩ : BSt) else bpPass ts ls c b m).b < _
          split
          · intro le _
            exact sumB_lt le tot' (show m < ts.length by omega) hb updB_same (by assumption)
          · intro _ h; rw [hf] at h; cases h
/-- the least prices -/
structure Best (ts : List Tm) (ls : List Nat) (c : Tm → Nat) (b : Nat → Option Nat) (B : Nat → Nat) : Prop where
  val : ∀ k, k < ts.length → b (Lf ls k) = some (B (Lf ls k))
  le : ∀ k, k < ts.length → B (Lf ls k) ≤ prN ts ls c B k
  at' : ∀ k, k < ts.length → ∃ m, m < ts.length ∧ Lf ls m = Lf ls k ∧ prN ts ls c B m = B (Lf ls k)
  pr : ∀ k, k < ts.length → prO ts ls c b k = some (prN ts ls c B k)
  dom : ∀ j, b j ≠ none → ∃ k, k < ts.length ∧ Lf ls k = j
theorem best_of (wf : WfT ts) {b : Nat → Option Nat} (s : Sup ts ls c b) (tot : ∀ k, k < ts.length → b (Lf ls k) ≠ none) (fx : ∀ k, k < ts.length → ∀ p, prO ts ls c b k = some p → ∃ v, b (Lf ls k) = some v ∧ v ≤ p) :
    Best ts ls c b fun j => (b j).getD 0 := by
  have val : ∀ k, k < ts.length → b (Lf ls k) = some ((b (Lf ls k)).getD 0) := fun k hk => by
    cases h : b (Lf ls k) with
    | none => exact absurd h (tot k hk)
    | some v => rfl
  have pr : ∀ k, k < ts.length → prO ts ls c b k = some (prN ts ls c (fun j => (b j).getD 0) k) := fun k hk => by
    have hk' : ts[k]? = some (tmAt ts k) := by simp [tmAt, List.getD, hk]
    have hw : ∀ a ∈ arms (tmAt ts k), a < ts.length := fun a ha => by
      cases ht : tmAt ts k with
      | num n => rw [ht] at ha; cases ha
      | name n => rw [ht] at ha; cases ha
      | of w ks => rw [ht] at hk' ha; have := wf k w ks hk' a ha; omega
    unfold prO prN
    rw [priceM_some]
    refine ⟨_, ?_, rfl⟩
    rw [List.map_map]
    exact List.map_congr_left fun a ha => val a (hw a ha)
  refine ⟨val, fun k hk => ?_, fun k hk => ?_, pr, fun j hj => ?_⟩
  · obtain ⟨v, h1, h2⟩ := fx k hk _ (pr k hk)
    show (b (Lf ls k)).getD 0 ≤ _
    rw [h1]; exact h2
  · obtain ⟨m, h1, h2, p, h3, h4⟩ := s _ _ (val k hk)
    refine ⟨m, h1, h2, ?_⟩
    rw [pr m h1] at h4
    cases h4
    obtain ⟨v, h5, h6⟩ := fx m h1 _ (pr m h1)
    have h7 := val m h1
    rw [h2] at h5 h7
    rw [h7] at h5
    have h5 := Option.some.inj h5
    show _ = (b (Lf ls k)).getD 0
    omega
  · cases h : b j with
    | none => exact absurd h hj
    | some v => obtain ⟨k, h1, h2, _⟩ := s j v h; exact ⟨k, h1, h2⟩
end
end SW
namespace SW
open PySem PySem.Spec L2 AL
/-! ### costs -/
def ky : Tm → Str
  | .num _ => "#"
  | .name _ => "@"
  | .of w _ => w
def CsOk (kws : List (Key × W)) : Prop := ∀ k w, lk kws k = some w → ∃ n : Nat, w = .int n ∧ 1 ≤ n
def cst (kws : List (Key × W)) (t : Tm) : Nat := match lk kws (.inr (ky t)) with
  | some (.int i) => i.toNat
  | _ => 1
theorem cst_get {kws : List (Key × W)} (h : CsOk kws) (t : Tm) : (lk kws (.inr (ky t))).getD (.int 1) = .int (cst kws t : Nat) := by
  unfold cst
  cases e : lk kws (.inr (ky t)) with
  | none => rfl
  | some w =>
    obtain ⟨n, rfl, _⟩ := h _ _ e
    show W.int n = W.int ((n : Int).toNat : Nat)
    simp
theorem cst_pos {kws : List (Key × W)} (h : CsOk kws) (t : Tm) : 1 ≤ cst kws t := by
  unfold cst
  cases e : lk kws (.inr (ky t)) with
  | none => exact Nat.le_refl _
  | some w =>
    obtain ⟨n, rfl, h1⟩ := h _ _ e
    show 1 ≤ (n : Int).toNat
    omega
def oN : Option Nat → W
  | none => .non
  | some n => .int n
section
variable {P : Program} {w : World} {K : PySem.W.Frag} {mg : Str → Option Value} {base : Heap}
abbrev sCost : Stmt := top 5
theorem sc_cost : FnScope ["term", "costs"] ["term", "costs"] (defScope sCost) := ⟨rfl, rfl, rfl, by decide +kernel, rfl, by decide +kernel, by decide +kernel⟩
def spCost : ASp := fun ws G K _ => ∃ (t : Tm) (d : W) (kws : List (Key × W)), ws = [t.W, d] ∧ DkA G d kws ∧ CsOk kws ∧ K (.int (cst kws t : Nat)) G
theorem ok_cost {f : Addr} {fd : FuncData} (F : Fun K "cost_of" "cost_of" sCost f fd) : FnOk P w K mg base CX0 1 f fd ["term", "costs"] (low ⟨P, w, K⟩ spCost) := by
  refine fnA_of F sc_cost (fun ws G Kc KE ⟨t, d, kws, e, _⟩ => by rw [e]; rfl) fun cdv A outer s H E ws G Kc KE hr ⟨t, d, kws, e, hD, hC, k⟩ => ?_
  subst e
  have g := cst_get hC t
  rw [← g] at k
  refine s_cons (s_if (b_eq (u64 hr) (q_ix (qv 0 rfl (q_int ?_)))))
  cases t with
  | num n =>
    refine q_str (ifB_T (by decide +kernel) (s_cons (s_ret (q_dget2 (u64 hr) (qv 1 rfl ⟨_, hD, q_str (q_int ⟨_, _, hD, rfl, ?_⟩)⟩)))))
    exact ⟨G, Sub.refl, k⟩
  | name n =>
    refine q_str (ifB_F (by decide +kernel) (s_nil (s_cons (s_if (b_eq (u64 hr) (q_ix (qv 0 rfl (q_int ?_))))))))
    refine q_str (ifB_T (by decide +kernel) (s_cons (s_ret (q_dget2 (u64 hr) (qv 1 rfl ⟨_, hD, q_str (q_int ⟨_, _, hD, rfl, ?_⟩)⟩)))))
    exact ⟨G, Sub.refl, k⟩
  | of x ks =>
    refine q_str (ifB_F (by decide +kernel) (s_nil (s_cons (s_if (b_eq (u64 hr) (q_ix (qv 0 rfl (q_int ?_))))))))
    refine q_str (ifB_F (by decide +kernel) (s_nil (s_cons (s_ret (q_dget2 (u64 hr) (qv 1 rfl ⟨_, hD, q_ix (qv 0 rfl (q_int ?_))⟩))))))
    refine q_int ⟨_, _, hD, rfl, ?_⟩
    exact ⟨G, Sub.refl, k⟩
abbrev sArms : Stmt := top 6
theorem sc_arms : FnScope ["term"] ["term"] (defScope sArms) := ⟨rfl, rfl, rfl, by decide +kernel, rfl, by decide +kernel, by decide +kernel⟩
def spArms : ASp := fun ws G K _ => ∃ (t : Tm), ws = [t.W] ∧ K (.tup (nW (arms t))) G
theorem ok_arms {f : Addr} {fd : FuncData} (F : Fun K "arms_of" "arms_of" sArms f fd) : FnOk P w K mg base CX0 1 f fd ["term"] (low ⟨P, w, K⟩ spArms) := by
  refine fnA_of F sc_arms (fun ws G Kc KE ⟨t, e, _⟩ => by rw [e]; rfl) fun cdv A outer s H E ws G Kc KE hr ⟨t, e, k⟩ => ?_
  subst e
  refine s_cons (s_if (b_eq (u64 hr) (q_ix (qv 0 rfl (q_int ?_)))))
  cases t with
  | num n =>
    exact q_str (ifB_F (by decide +kernel) (s_nil (s_cons (s_ret (q_tup (a_nil ⟨G, Sub.refl, k⟩))))))
  | name n =>
    exact q_str (ifB_F (by decide +kernel) (s_nil (s_cons (s_ret (q_tup (a_nil ⟨G, Sub.refl, k⟩))))))
  | of x ks =>
    refine q_str (ifB_T (by decide +kernel) (s_cons (s_ret (q_ix (qv 0 rfl (q_int ?_))))))
    exact ⟨G, Sub.refl, k⟩
/-! ### price_by -/
abbrev sPb : Stmt := top 7
theorem sc_pb : FnScope ["term", "leads", "costs", "best", "price", "arm"] ["term", "leads", "costs", "best"] (defScope sPb) := ⟨rfl, rfl, rfl, by decide +kernel, rfl, by decide +kernel, by decide +kernel⟩
def bI (b : Nat → Option Nat) : Nat → Option W := fun j => (b j).map fun (n : Nat) => .int n
def spPb : ASp := fun ws G K _ => ∃ (t : Tm) (l d bd : W) (ls : List Nat) (kws bk : List (Key × W)) (N : Nat) (b : Nat → Option Nat), ws = [t.W, l, d, bd] ∧ LsA G l (nW ls) ∧ DkA G d kws ∧ CsOk kws ∧ DkA G bd bk ∧ DI N bk (bI b) ∧ (∀ k ∈ arms t, k < ls.length) ∧
  K (oN (priceM (cst kws t) ((arms t).map fun a => b (Lf ls a)))) G
theorem ok_pb {f : Addr} {fd : FuncData} (F : Fun K "price_by" "price_by" sPb f fd) (B : Bl mg) (CC : Cal P w K mg base "cost_of" 1 ["term", "costs"] spCost) (CA : Cal P w K mg base "arms_of" 1 ["term"] spArms) : FnOk P w K mg base CX0 2 f fd ["term", "leads", "costs", "best"] (low ⟨P, w, K⟩ spPb) := by
  refine fnA_of F sc_pb (fun ws G Kc KE ⟨t, l, d, bd, ls, kws, bk, N, b, e, _⟩ => by rw [e]; rfl) fun cdv A outer s H E ws G Kc KE hr ⟨t, l, d, bd, ls, kws, bk, N, b, e, hL, hD, hC, hB, DB, har, k⟩ => ?_
  subst e
  refine s_cons (s_set (i := 4) sc_pb.nd (q_cal CC hr (a_cons (qv 0 rfl (a_cons (qv 2 rfl (a_nil ⟨t, d, kws, rfl, hD, hC, ?_⟩)))))))
  refine s_cons (s_for PassesOwn.never rfl (i_tup (q_cal CA hr (a_cons (qv 0 rfl (a_nil ⟨t, rfl, ?_⟩))))))
  refine ⟨fun i ρ' G' => ∃ (p : Nat) (v : Option W), ρ' = [some t.W, some l, some d, some bd, some (.int p), v] ∧ G' = G ∧ priceM (cst kws t) ((arms t).map fun a => b (Lf ls a)) = priceM p (((arms t).drop i).map fun a => b (Lf ls a)), ⟨_, _, rfl, rfl, rfl⟩, fun _ _ _ _ _ => trivial, fun i x ρ' G' hx ⟨p, v, e1, e2, e3⟩ => ?_, fun ρ' G' ⟨p, v, e1, e2, e3⟩ => ?_⟩
  · subst e1 e2
    obtain ⟨a, ha, rfl⟩ : ∃ a : Nat, (arms t)[i]? = some a ∧ W.int a = x := by
      rw [nW, List.getElem?_map] at hx; exact Option.map_eq_some_iff.mp hx
    obtain ⟨hi, ea⟩ := List.getElem?_eq_some_iff.mp ha
    have hal : a < ls.length := har a (List.mem_of_getElem? ha)
    rw [List.drop_eq_getElem_cons hi, ea, List.map_cons] at e3
    refine g_name (i := 5) sc_pb.nd ?_
    refine s_cons (s_if (b_dnin (u64 hr) (q_ix (qv 1 rfl (qv 5 rfl (fIx_ls hL (nW_at hal) ?_))))))
    refine qv 3 rfl ⟨bk, _, hB, keyW_nat _, ?_⟩
    rw [DB.get]
    cases hb : b (Lf ls a) with
    | none =>
      rw [hb] at e3
      have e0 : (bI b (Lf ls a)) = none := by unfold bI; rw [hb]; rfl
      rw [show ls.getD a 0 = Lf ls a from rfl, e0]
      refine ifT (s_cons (s_ret (q_non ⟨G', Sub.refl, ?_⟩)))
      rw [e3] at k
      exact k
    | some n =>
      rw [hb] at e3
      have e0 : (bI b (Lf ls a)) = some (.int n) := by unfold bI; rw [hb]; rfl
      rw [show ls.getD a 0 = Lf ls a from rfl, e0]
      refine ifF (s_nil (s_cons (s_addI (i := 4) (z := p) sc_pb.nd rfl (q_dget (u64 hr) (qv 3 rfl (q_ix (qv 1 rfl (qv 5 rfl (fIx_ls hL (nW_at hal) ?_)))))))))
      refine ⟨bk, _, _, hB, keyW_nat _, by rw [DB.get]; exact e0, ?_⟩
      exact s_nil ⟨p + n, _, rfl, rfl, e3⟩
  · subst e1 e2
    rw [nW_length, List.drop_length] at e3
    rw [e3] at k
    exact s_cons (s_ret (qv 4 rfl ⟨G', Sub.refl, k⟩))
/-! ### best_prices -/
abbrev sBp : Stmt := top 8
theorem sc_bp : FnScope ["terms", "leads", "costs", "best", "fallen", "k", "term", "price"] ["terms", "leads", "costs"] (defScope sBp) := ⟨rfl, rfl, rfl, by decide +kernel, rfl, by decide +kernel, by decide +kernel⟩
/-- leads of well made terms -/
structure LsOk (ts : List Tm) (ls : List Nat) : Prop where
  T : TsOk ts
  g : Good ts.length ls
def spBp : ASp := fun ws G K _ => ∃ (t l d : W) (ts : List Tm) (ls : List Nat) (kws : List (Key × W)), ws = [t, l, d] ∧ LsA G t (tW ts) ∧ LsA G l (nW ls) ∧ DkA G d kws ∧ CsOk kws ∧ LsOk ts ls ∧
  ∀ p bk b B, G p = none → DI ts.length bk (bI b) → Best ts ls (cst kws) b B → K (.ref p) (aup G p (.dK bk))
theorem enW_item {xs : List W} {i : Nat} {x : W} (h : (enW xs)[i]? = some x) : ∃ w, xs[i]? = some w ∧ x = .tup [.int (i : Nat), w] := by
  have l := (List.getElem?_eq_some_iff.mp h).1
  rw [enW_length] at l
  have := enW_get (List.getElem?_eq_getElem l)
  rw [this] at h
  exact ⟨_, List.getElem?_eq_getElem l, (Option.some.inj h).symm⟩
theorem tW_item {ts : List Tm} {i : Nat} {x : W} (h : (tW ts)[i]? = some x) : ∃ t, ts[i]? = some t ∧ t.W = x := by
  rw [tW, List.getElem?_map] at h; exact Option.map_eq_some_iff.mp h
theorem nW_item {ls : List Nat} {i : Nat} {x : W} (h : (nW ls)[i]? = some x) : ∃ k : Nat, ls[i]? = some k ∧ W.int k = x := by
  rw [nW, List.getElem?_map] at h; exact Option.map_eq_some_iff.mp h
theorem tmAt_of {ts : List Tm} {k : Nat} {t : Tm} (h : ts[k]? = some t) : tmAt ts k = t := by simp [tmAt, List.getD, h]
theorem bI_upd {b : Nat → Option Nat} {j v : Nat} (i : Nat) : (if i = j then some (W.int (v : Int)) else bI b i) = bI (updB b j v) i := by
  unfold bI updB
  by_cases e : i = j
  · rw [if_pos e, if_pos e]; rfl
  · rw [if_neg e, if_neg e]
theorem ok_bp {f : Addr} {fd : FuncData} (F : Fun K "best_prices" "best_prices" sBp f fd) (B : Bl mg) (CP : Cal P w K mg base "price_by" 2 ["term", "leads", "costs", "best"] spPb) : FnOk P w K mg base CX0 3 f fd ["terms", "leads", "costs"] (low ⟨P, w, K⟩ spBp) := by
  refine fnA_of F sc_bp (fun ws G Kc KE ⟨t, l, d, ts, ls, kws, e, _⟩ => by rw [e]; rfl) fun cdv A outer s H E ws G Kc KE hr ⟨t, l, d, ts, ls, kws, e, hT, hL, hD, hC, O, k⟩ => ?_
  subst e
  have wf := O.T.wf
  have many := O.T.many
  refine s_cons (s_set (i := 3) sc_bp.nd (q_dnew fun p hp => ?_))
  refine s_cons (s_set (i := 4) sc_bp.nd (q_bl ?_))
  let c := cst kws
  let S1 := sumB ts.length ls (bpPass ts ls c (fun _ => none) ts.length).b + 2
  let Pw : Nat → AS → AH → Prop := fun m ρ' G' => ∃ (g : Bool) (bk : List (Key × W)) (b : Nat → Option Nat) (v1 v2 v3 : Option W), ρ' = [some t, some l, some d, some (.ref p), some (.bl g), v1, v2, v3] ∧ G' = aup G p (.dK bk) ∧ DI ts.length bk (bI b) ∧ Sup ts ls c b ∧
    ((g = true ∧ (∀ j, b j = none) ∧ m = S1) ∨ ((∀ k, k < ts.length → b (Lf ls k) ≠ none) ∧ ((g = true ∧ m = sumB ts.length ls b + 1) ∨ (g = false ∧ m = 0 ∧ ∀ k, k < ts.length → ∀ p, prO ts ls c b k = some p → ∃ v, b (Lf ls k) = some v ∧ v ≤ p))))
  refine s_cons (s_whileN PassesOwn.never Pw S1 ⟨true, [], fun _ => none, none, none, none, rfl, rfl, (DI.nil _).cong fun _ => rfl, (fun j v e => by cases e), .inl ⟨rfl, fun _ => rfl, rfl⟩⟩ ?_)
  rintro m ρ0 G0 ⟨g, bk0, b0, v1, v2, v3, e1, e2, DB0, SU0, alt⟩
  subst e1 e2
  refine b_val (qv 4 rfl ?_)
  refine ifB_of (fun hg => ?_) (fun hg => ?_)
  · subst hg
    refine s_cons (s_set (i := 4) sc_bp.nd (q_bl ?_))
    refine s_cons (s_for PassesOwn.never rfl (i_enum rfl B.enumerate (qv 0 rfl ⟨_, hT.new hp, ?_⟩)))
    refine ⟨fun i ρ' G' => ∃ (bk : List (Key × W)) (v1 v2 v3 : Option W), ρ' = [some t, some l, some d, some (.ref p), some (.bl (bpPass ts ls c b0 i).f), v1, v2, v3] ∧ G' = aup G p (.dK bk) ∧ DI ts.length bk (bI (bpPass ts ls c b0 i).b), ⟨bk0, v1, v2, v3, rfl, rfl, DB0⟩,
      fun i ρ' G' _ ⟨_, _, _, _, _, e2, _⟩ => by rw [e2]; exact hT.new hp, fun i x ρ' G' hx ⟨bk, v1, v2, v3, e1, e2, DB⟩ => ?_, fun ρ' G' ⟨bk, v1, v2, v3, e1, e2, DB⟩ => ?_⟩
    · obtain ⟨tw, ht, rfl⟩ := enW_item hx
      obtain ⟨tm, htm, rfl⟩ := tW_item ht
      have hi : i < ts.length := (List.getElem?_eq_some_iff.mp htm).1
      have hil : i < ls.length := by rw [O.g.len]; exact hi
      subst e1 e2
      have step : bpPass ts ls c b0 (i + 1) = bpStep ts ls c (bpPass ts ls c b0 i) i := rfl
      generalize bpPass ts ls c b0 i = st at step DB ⊢
      refine g_tup rfl (gs_cons (g_name (i := 5) sc_bp.nd (gs_cons (g_name (i := 6) sc_bp.nd (gs_nil ?_)))))
      have har : ∀ k ∈ arms tm, k < ls.length := (mk_arms O.T (ls := ls) O.g.len htm).1
      refine s_cons (s_set (i := 7) sc_bp.nd (q_cal CP hr (a_cons (qv 6 rfl (a_cons (qv 1 rfl (a_cons (qv 2 rfl (a_cons (qv 3 rfl (a_nil ⟨tm, l, d, .ref p, ls, kws, bk, ts.length, st.b, rfl, hL.new hp, hD.new hp, hC, .inl aup_same, DB, har, ?_⟩)))))))))))
      have pe : priceM (cst kws tm) ((arms tm).map fun a => st.b (Lf ls a)) = prO ts ls c st.b i := by unfold prO; rw [tmAt_of htm]
      rw [pe]
      refine s_cons (s_if (WQ.test (w_and (b_isn (qv 7 rfl (q_non ?_))))))
      cases hpo : prO ts ls c st.b i with
      | none =>
        have es : bpStep ts ls c st i = st := by unfold bpStep; rw [hpo]
        rw [es] at step
        exact ifF (ifF (s_nil (s_nil ⟨bk, _, _, _, by rw [step]; rfl, rfl, by rw [step]; exact DB⟩)))
      | some pr =>
        refine ifT (w_and1 (WQ.test (w_or (b_dnin (u64 hr) (q_ix (qv 1 rfl (qv 5 rfl (fIx_ls (hL.new hp) (nW_at hil) ?_))))))))
        refine qv 3 rfl ⟨bk, _, .inl aup_same, keyW_nat _, ?_⟩
        rw [DB.get]
        have hlt : ls.getD i 0 < ts.length := O.g.lt hi
        cases hb : st.b (Lf ls i) with
        | none =>
          have e0 : (bI st.b (ls.getD i 0)) = none := by show (st.b (Lf ls i)).map _ = none; rw [hb]; rfl
          have es : bpStep ts ls c st i = ⟨updB st.b (Lf ls i) pr, true⟩ := by unfold bpStep; rw [hpo, hb]
          rw [es] at step
          rw [e0]
          refine ifT (ifT ?_)
          refine s_cons (s_asg (qv 7 rfl (g_dput (u64 hr) (qv 3 rfl (q_ix (qv 1 rfl (qv 5 rfl (fIx_ls (hL.new hp) (nW_at hil) ?_))))))))
          refine ⟨bk, _, aup_same, keyW_nat _, DB.small (by omega), ?_⟩
          refine s_cons (s_set (i := 4) sc_bp.nd (q_bl ?_))
          rw [aup_aup]
          exact s_nil (s_nil ⟨_, _, _, _, by rw [step]; rfl, rfl, by rw [step]; exact (DB.put hlt _).cong fun j => bI_upd j⟩)
        | some v =>
          have e0 : (bI st.b (ls.getD i 0)) = some (.int v) := by show (st.b (Lf ls i)).map _ = some _; rw [hb]; rfl
          rw [e0]
          refine ifF (w_or1 (b_lt (qv 7 rfl (q_dget (u64 hr) (qv 3 rfl (q_ix (qv 1 rfl (qv 5 rfl (fIx_ls (hL.new hp) (nW_at hil) ?_)))))))))
          refine ⟨bk, _, _, .inl aup_same, keyW_nat _, by rw [DB.get]; exact e0, ?_⟩
          have es : bpStep ts ls c st i = if pr < v then ⟨updB st.b (Lf ls i) pr, true⟩ else st := by unfold bpStep; rw [hpo, hb]
          refine ifB_dec (fun h => ?_) (fun h => ?_)
          · rw [es, if_pos (by omega)] at step
            refine s_cons (s_asg (qv 7 rfl (g_dput (u64 hr) (qv 3 rfl (q_ix (qv 1 rfl (qv 5 rfl (fIx_ls (hL.new hp) (nW_at hil) ?_))))))))
            refine ⟨bk, _, aup_same, keyW_nat _, DB.small (by omega), ?_⟩
            refine s_cons (s_set (i := 4) sc_bp.nd (q_bl ?_))
            rw [aup_aup]
            exact s_nil (s_nil ⟨_, _, _, _, by rw [step]; rfl, rfl, by rw [step]; exact (DB.put hlt _).cong fun j => bI_upd j⟩)
          · rw [es, if_neg (by omega)] at step
            exact s_nil (s_nil ⟨bk, _, _, _, by rw [step]; rfl, rfl, by rw [step]; exact DB⟩)
    · rw [enW_length, tW_length] at e1 DB
      have SU := pass_sup (ts := ts) (ls := ls) (c := c) SU0 ts.length (Nat.le_refl _)
      have TT := pass_tot (ts := ts) (ls := ls) (c := c) wf b0 ts.length (Nat.le_refl _)
      subst e1 e2
      refine s_nil ?_
      cases hf : (bpPass ts ls c b0 ts.length).f with
      | true =>
        refine ⟨sumB ts.length ls (bpPass ts ls c b0 ts.length).b + 1, ?_, true, bk, _, _, _, _, rfl, rfl, DB, SU, .inr ⟨TT, .inl ⟨rfl, rfl⟩⟩⟩
        rcases alt with ⟨_, hn, em⟩ | ⟨tot, ⟨_, em⟩ | ⟨h, _⟩⟩
        · have : b0 = fun _ => none := funext hn
          subst this
          rw [em]; exact Nat.lt_succ_self _
        · rw [em]; have := pass_yes tot ts.length (Nat.le_refl _) hf; omega
        · cases h
      | false =>
        obtain ⟨n1, n2⟩ := pass_no (ts := ts) (ls := ls) (c := c) (b := b0) ts.length hf
        rw [n1] at TT DB
        refine ⟨0, ?_, false, bk, b0, _, _, _, rfl, rfl, DB, SU0, .inr ⟨TT, .inr ⟨rfl, rfl, n2⟩⟩⟩
        rcases alt with ⟨_, _, em⟩ | ⟨_, ⟨_, em⟩ | ⟨h, _⟩⟩
        · rw [em]; exact Nat.succ_pos _
        · rw [em]; exact Nat.succ_pos _
        · cases h
  · subst hg
    rcases alt with ⟨h, _⟩ | ⟨tot, ⟨h, _⟩ | ⟨_, _, fx⟩⟩
    · cases h
    · cases h
    · exact s_cons (s_ret (qv 3 rfl ⟨_, Sub.refl, k p bk0 b0 _ hp DB0 (best_of wf SU0 tot fx)⟩))
end
end SW
namespace SW
open PySem PySem.Spec L2 AL
/-! ### choices, plain -/
inductive Reach (nx : Nat → List Nat) (a : Nat) : Nat → Prop where
  | refl : Reach nx a a
  | step {b c : Nat} : Reach nx a b → c ∈ nx b → Reach nx a c
theorem nodup_inj {l : List Nat} (nd : l.Nodup) {i j : Nat} (hi : i < l.length) (hj : j < l.length) (e : l[i] = l[j]) : i = j := by
  apply Classical.byContradiction
  intro n
  rcases Nat.lt_or_gt_of_ne n with h | h
  · exact List.pairwise_iff_getElem.mp nd i j hi hj h e
  · exact List.pairwise_iff_getElem.mp nd j i hj hi h e.symm
theorem nodup_sub_len : ∀ {a b : List Nat}, a.Nodup → (∀ x ∈ a, x ∈ b) → a.length ≤ b.length
  | [], _, _, _ => Nat.zero_le _
  | x :: a, b, nd, h => by
    have nd := List.nodup_cons.mp nd
    have hx := h x List.mem_cons_self
    have := nodup_sub_len (a := a) (b := b.erase x) nd.2 fun y hy => (List.mem_erase_of_ne (fun e => nd.1 (by rw [← e]; exact hy))).mpr (h y (List.mem_cons_of_mem _ hy))
    rw [List.length_erase_of_mem hx] at this
    have := List.length_pos_of_mem hx
    rw [List.length_cons]; omega
theorem nodup_all {a b : List Nat} (nd : a.Nodup) (h : ∀ x ∈ a, x ∈ b) (l : b.length ≤ a.length) : ∀ x ∈ b, x ∈ a := fun x hx => Classical.byContradiction fun n => by
  have := nodup_sub_len (a := x :: a) (b := b) (List.nodup_cons.mpr ⟨n, nd⟩) fun y hy => by
    rcases List.mem_cons.mp hy with e | hy
    · rw [e]; exact hx
    · exact h y hy
  rw [List.length_cons] at this; omega
structure Top (nx : Nat → List Nat) (ord : List Nat) : Prop where
  nd : ord.Nodup
  ahead : ∀ (i l : Nat), ord[i]? = some l → ∀ m ∈ nx l, m ∈ ord.take i
theorem Top.nil {nx : Nat → List Nat} : Top nx [] := ⟨List.nodup_nil, fun i l h => by simp at h⟩
theorem Top.add {nx : Nat → List Nat} {ord : List Nat} {l : Nat} (t : Top nx ord) (hl : l ∉ ord) (h : ∀ m ∈ nx l, m ∈ ord) : Top nx (ord ++ [l]) := by
  refine ⟨List.nodup_append.mpr ⟨t.nd, by simp, fun a ha b hb e => by simp at hb; subst hb; subst e; exact hl ha⟩, fun i k hk m hm => ?_⟩
  by_cases c : i < ord.length
  · rw [List.getElem?_append_left c] at hk
    have := t.ahead i k hk m hm
    rw [List.take_append_of_le_length (by omega)]; exact this
  · rw [List.getElem?_append_right (by omega)] at hk
    have z : i - ord.length = 0 := by
      cases e : i - ord.length with
      | zero => rfl
      | succ n => rw [e] at hk; simp at hk
    rw [z] at hk
    have : l = k := by simpa using hk
    subst this
    have e : i = ord.length := by omega
    rw [e, List.take_left']
    · exact h m hm
    · rfl
theorem Top.sub {nx : Nat → List Nat} {ord : List Nat} (t : Top nx ord) {l m : Nat} (h : l ∈ ord) (hm : m ∈ nx l) : m ∈ ord := by
  obtain ⟨i, hi, e⟩ := List.getElem_of_mem h
  exact List.mem_of_mem_take (t.ahead i l (by rw [← e]; exact List.getElem?_eq_getElem hi) m hm)
theorem Top.all {nx : Nat → List Nat} {ord : List Nat} (t : Top nx ord) {a b : Nat} (h : a ∈ ord) (r : Reach nx a b) : b ∈ ord := by
  induction r with
  | refl => exact h
  | step _ hm ih => exact t.sub ih hm
theorem Top.take {nx : Nat → List Nat} {ord : List Nat} (t : Top nx ord) (i : Nat) : Top nx (ord.take i) := by
  refine ⟨t.nd.sublist (List.take_sublist _ _), fun j l h m hm => ?_⟩
  rw [List.getElem?_take] at h
  split at h
  · rename_i hj
    have := t.ahead j l h m hm
    rw [List.take_take, Nat.min_eq_left (by omega)]; exact this
  · cases h
/-- what is done by a choice -/
structure Ord (nx : Nat → List Nat) (lead : Nat) (ord : List Nat) : Prop where
  top : Top nx ord
  last : ord.getLast? = some lead
  rch : ∀ l ∈ ord, Reach nx lead l
def RowsP (nx : Nat → List Nat) (lead : Nat) : Option (List Nat) → Prop
  | some ord => Ord nx lead ord
  | none => ∀ r : Nat → Nat, ¬ ∀ l, Reach nx lead l → ∀ m ∈ nx l, r m < r l
/-- the classes that are needed -/
structure Fnd (nx : Nat → List Nat) (S : Nat → Prop) (lead : Nat) (fnd : List Nat) : Prop where
  nd : fnd.Nodup
  hd : fnd[0]? = some lead
  rch : ∀ l ∈ fnd, Reach nx lead l
  ok : ∀ l ∈ fnd, S l
theorem Fnd.one {nx : Nat → List Nat} {S : Nat → Prop} {lead : Nat} (h : S lead) : Fnd nx S lead [lead] := ⟨by simp, rfl, fun l hl => by simp at hl; subst hl; exact .refl, fun l hl => by simp at hl; subst hl; exact h⟩
theorem Fnd.add {nx : Nat → List Nat} {S : Nat → Prop} {lead l m : Nat} {fnd : List Nat} (f : Fnd nx S lead fnd) (hl : l ∈ fnd) (hm : m ∈ nx l) (h : m ∉ fnd) (hs : S m) : Fnd nx S lead (fnd ++ [m]) := by
  refine ⟨List.nodup_append.mpr ⟨f.nd, by simp, fun a ha b hb e => by simp at hb; subst hb; subst e; exact h ha⟩, ?_, fun x hx => ?_, fun x hx => ?_⟩
  · rw [List.getElem?_append_left (List.length_pos_of_mem hl)]; exact f.hd
  · rcases List.mem_append.mp hx with hx | hx
    · exact f.rch x hx
    · simp at hx; subst hx; exact .step (f.rch l hl) hm
  · rcases List.mem_append.mp hx with hx | hx
    · exact f.ok x hx
    · simp at hx; subst hx; exact hs
theorem rows_some {nx : Nat → List Nat} {S : Nat → Prop} {lead : Nat} {fnd ord : List Nat} (f : Fnd nx S lead fnd) (t : Top nx ord) (sub : ∀ l ∈ ord, l ∈ fnd) (h : fnd.length ≤ ord.length) : Ord nx lead ord := by
  have all := nodup_all t.nd sub h
  have hl : lead ∈ ord := all lead (List.mem_of_getElem? f.hd)
  refine ⟨t, ?_, fun l hl => f.rch l (sub l hl)⟩
  have ne : ord ≠ [] := List.ne_nil_of_mem hl
  rw [List.getLast?_eq_some_getLast ne]
  congr 1
  apply Classical.byContradiction
  intro n
  have hz : ord.getLast ne ∈ ord := List.getLast_mem ne
  have r := f.rch _ (sub _ hz)
  cases r with
  | refl => exact n rfl
  | @step y _ ry hy =>
    have hyo : y ∈ ord := t.all hl ry
    obtain ⟨i, hi, e⟩ := List.getElem_of_mem hyo
    have m := t.ahead i y (by rw [← e]; exact List.getElem?_eq_getElem hi) _ hy
    obtain ⟨j, hj, e2⟩ := List.getElem_of_mem m
    rw [List.length_take] at hj
    have e3 : ord[j]'(by omega) = ord.getLast ne := by rw [← e2, List.getElem_take]
    rw [List.getLast_eq_getElem] at e3
    have := nodup_inj t.nd _ _ e3
    omega
theorem rows_none {nx : Nat → List Nat} {S : Nat → Prop} {lead : Nat} {fnd ord : List Nat} (f : Fnd nx S lead fnd) (cl : ∀ l ∈ fnd, ∀ m ∈ nx l, m ∈ fnd) (stuck : ∀ l ∈ fnd, l ∉ ord → ∃ m ∈ nx l, m ∉ ord) (h : ord.length < fnd.length) :
    ∀ r : Nat → Nat, ¬ ∀ l, Reach nx lead l → ∀ m ∈ nx l, r m < r l := fun r hr => by
  have all : ∀ (n l : Nat), r l = n → l ∈ fnd → l ∈ ord := by
    intro n
    induction n using Nat.strongRecOn with
    | _ n ih =>
      intro l e hl
      apply Classical.byContradiction
      intro no
      obtain ⟨m, hm, no2⟩ := stuck l hl no
      exact no2 (ih (r m) (by have := hr l (f.rch l hl) m hm; omega) m rfl (cl l hl m hm))
  have := nodup_sub_len f.nd fun l hl => all _ l rfl hl
  omega
/-- along a choice something can be told of each class by its needed ones -/
theorem topo {α : Type} (d : α) {nx : Nat → List Nat} (F : Nat → (Nat → α) → α) (hF : ∀ l f g, (∀ m ∈ nx l, f m = g m) → F l f = F l g) : ∀ (ord : List Nat), Top nx ord → ∃ f : Nat → α, ∀ l ∈ ord, f l = F l f := by
  intro ord
  have gen : ∀ n, n ≤ ord.length → Top nx ord → ∃ f : Nat → α, ∀ l ∈ ord.take n, f l = F l f := by
    intro n
    induction n with
    | zero => intro _ _; exact ⟨fun _ => d, fun l h => by simp at h⟩
    | succ n ih =>
      intro hn t
      obtain ⟨f, hf⟩ := ih (by omega) t
      have e : ord[n]? = some ord[n] := List.getElem?_eq_getElem (by omega)
      refine ⟨fun l => if l = ord[n] then F l f else f l, fun l hl => ?_⟩
      have fr : ord[n] ∉ ord.take n := fun hm => by
        obtain ⟨j, hj, e2⟩ := List.getElem_of_mem hm
        rw [List.length_take] at hj
        rw [List.getElem_take] at e2
        have := nodup_inj t.nd (by omega) (by omega) e2
        omega
      have same : ∀ m ∈ ord.take n, (if m = ord[n] then F m f else f m) = f m := fun m hm => if_neg fun z => fr (by rw [← z]; exact hm)
      have nb : ∀ l ∈ ord.take (n + 1), ∀ m ∈ nx l, m ∈ ord.take n := fun l hl m hm => by
        obtain ⟨j, hj, e2⟩ := List.getElem_of_mem hl
        rw [List.length_take] at hj
        rw [List.getElem_take] at e2
        have := t.ahead j l (by rw [← e2]; exact List.getElem?_eq_getElem (by omega)) m hm
        have tt : ord.take j = (ord.take n).take j := by rw [List.take_take, Nat.min_eq_left (by omega)]
        rw [tt] at this
        exact List.mem_of_mem_take this
      have ag : F l (fun l => if l = ord[n] then F l f else f l) = F l f := hF l _ _ fun m hm => same m (nb l hl m hm)
      rw [ag]
      by_cases z : l = ord[n]
      · exact if_pos z
      · show (if l = ord[n] then F l f else f l) = _
        rw [if_neg z]
        refine hf l ?_
        rw [List.take_succ, e, Option.toList_some] at hl
        rcases List.mem_append.mp hl with h | h
        · exact h
        · simp at h; exact absurd h z
  intro t
  obtain ⟨f, hf⟩ := gen ord.length (Nat.le_refl _) t
  rw [List.take_length] at hf
  exact ⟨f, hf⟩
end SW
namespace SW
open PySem PySem.Spec L2 AL
/-- the leads that the pick of a class needs -/
def nxF (ts : List Tm) (ls : List Nat) (p : Nat → Option Nat) (l : Nat) : List Nat := (arms (tmAt ts ((p l).getD 0))).map (Lf ls)
structure PkOk (ts : List Tm) (ls : List Nat) (p : Nat → Option Nat) (S : Nat → Prop) : Prop where
  h : ∀ l, S l → l < ts.length ∧ ∃ m, p l = some m ∧ m < ts.length ∧ ∀ a ∈ arms (tmAt ts m), S (Lf ls a)
theorem at_of {α : Type} {xs : List α} {d : α} {i : Nat} (h : i < xs.length) : xs[i]? = some (xs.getD i d) := by simp [List.getD, h]
theorem PkOk.nx {ts : List Tm} {ls : List Nat} {p : Nat → Option Nat} {S : Nat → Prop} (o : PkOk ts ls p S) {l m : Nat} (hl : S l) (hm : m ∈ nxF ts ls p l) : S m := by
  obtain ⟨_, k, hk, _, h⟩ := o.h l hl
  unfold nxF at hm
  rw [hk] at hm
  obtain ⟨a, ha, rfl⟩ := List.mem_map.mp hm
  exact h a ha
def tI (b : Nat → Prop) [DecidablePred b] : Nat → Option W := fun j => if b j then some (.bl true) else none
theorem tI_add (xs : List Nat) (x y : Nat) : (if y = x then some (W.bl true) else tI (· ∈ xs) y) = tI (· ∈ xs ++ [x]) y := by
  unfold tI
  by_cases e : y = x
  · subst e; simp
  · simp [e]
section
variable {P : Program} {w : World} {K : PySem.W.Frag} {mg : Str → Option Value} {base : Heap}
abbrev sNl : Stmt := top 9
theorem sc_nl : FnScope ["terms", "leads", "picks", "lead", "found", "seen", "at", "arm"] ["terms", "leads", "picks", "lead"] (defScope sNl) := ⟨rfl, rfl, rfl, by decide +kernel, rfl, by decide +kernel, by decide +kernel⟩
/-- terms, leads, picks as they are handed in -/
structure PkIn (G : AH) (t l pd : W) (ts : List Tm) (ls : List Nat) (p : Nat → Option Nat) (S : Nat → Prop) : Prop where
  hT : LsA G t (tW ts)
  hL : LsA G l (nW ls)
  hP : ∃ kws N, DkA G pd kws ∧ DI N kws (bI p)
  O : LsOk ts ls
  P : PkOk ts ls p S
theorem PkIn.new {G : AH} {t l pd : W} {ts : List Tm} {ls : List Nat} {p : Nat → Option Nat} {S : Nat → Prop} {a : Addr} {o : AO} (h : PkIn G t l pd ts ls p S) (ha : G a = none) : PkIn (aup G a o) t l pd ts ls p S :=
  ⟨h.hT.new ha, h.hL.new ha, (let ⟨k, N, h1, h2⟩ := h.hP; ⟨k, N, h1.new ha, h2⟩), h.O, h.P⟩
theorem PkIn.sub {G G' : AH} {t l pd : W} {ts : List Tm} {ls : List Nat} {p : Nat → Option Nat} {S : Nat → Prop} (h : PkIn G t l pd ts ls p S) (s : Sub G G') : PkIn G' t l pd ts ls p S :=
  ⟨h.hT.sub s, h.hL.sub s, (let ⟨k, N, h1, h2⟩ := h.hP; ⟨k, N, h1.sub s, h2⟩), h.O, h.P⟩
def spNl : ASp := fun ws G K _ => ∃ (t l pd : W) (ts : List Tm) (ls : List Nat) (p : Nat → Option Nat) (S : Nat → Prop) (lead : Nat), ws = [t, l, pd, .int lead] ∧ PkIn G t l pd ts ls p S ∧ S lead ∧
  ∀ fnd, Fnd (nxF ts ls p) S lead fnd → (∀ x ∈ fnd, ∀ m ∈ nxF ts ls p x, m ∈ fnd) → K (.lst (nW fnd)) G
theorem aup2 {G : AH} {a b : Addr} {o u o' : AO} (h : a ≠ b) : aup (aup (aup G a o) b u) a o' = aup (aup G a o') b u := by
  rw [aup_swap h, aup_aup, aup_swap h.symm]
theorem sub2 {G : AH} {a b : Addr} {o u : AO} (ha : G a = none) (hb : G b = none) : Sub G (aup (aup G a o) b u) := fun q v e => by
  rw [aup_ne (ane_none e hb), aup_ne (ane_none e ha)]; exact e
theorem ok_nl {f : Addr} {fd : FuncData} (F : Fun K "needed_leads" "needed_leads" sNl f fd) (B : Bl mg) (CA : Cal P w K mg base "arms_of" 1 ["term"] spArms) : FnOk P w K mg base CX0 2 f fd ["terms", "leads", "picks", "lead"] (low ⟨P, w, K⟩ spNl) := by
  refine fnA_of F sc_nl (fun ws G Kc KE ⟨t, l, pd, ts, ls, p, S, lead, e, _⟩ => by rw [e]; rfl) fun cdv A outer s H E ws G Kc KE hr ⟨t, l, pd, ts, ls, p, S, lead, e, I, hS, k⟩ => ?_
  subst e
  have many := I.O.T.many
  refine s_cons (s_set (i := 4) sc_nl.nd (q_lst (a_cons (qv 3 rfl (a_nil fun a ha => ?_)))))
  refine s_cons (s_set (i := 5) sc_nl.nd (q_disp1 fun d hd => qv 3 rfl (q_bl ⟨_, keyW_nat _, aup_same, ?_⟩)))
  rw [aup_aup]
  obtain ⟨hd0, hda⟩ := aup_free hd
  refine s_cons (s_set (i := 6) sc_nl.nd (q_int ?_))
  have hlt : ∀ x, S x → x < ts.length := fun x hx => (I.P.h x hx).1
  let nx := nxF ts ls p
  have fl : ∀ fnd, Fnd nx S lead fnd → fnd.length ≤ ts.length := fun fnd f => nodup_below _ _ f.nd fun x hx => hlt x (f.ok x hx)
  let Pw : Nat → AS → AH → Prop := fun m ρ' G' => ∃ (fnd : List Nat) (dk : List (Key × W)) (i : Nat) (v : Option W), ρ' = [some t, some l, some pd, some (.int lead), some (.ref a), some (.ref d), some (.int i), v] ∧ G' = aup (aup G a (.lst (nW fnd))) d (.dK dk) ∧
    Fnd nx S lead fnd ∧ DI ts.length dk (tI (· ∈ fnd)) ∧ i ≤ fnd.length ∧ (∀ x ∈ fnd.take i, ∀ m ∈ nx x, m ∈ fnd) ∧ m = ts.length + 1 - i
  have D1 : DI ts.length [((.inl (lead : Int) : Key), W.bl true)] (tI (· ∈ [lead])) := ((DI.nil ts.length).put (hlt lead hS) (.bl true)).cong fun j => by
    unfold tI
    by_cases e : j = lead
    · subst e; simp
    · simp [e]
  refine s_cons (s_whileN PassesOwn.never Pw (ts.length + 1) ⟨[lead], _, 0, none, rfl, rfl, Fnd.one hS, D1, Nat.zero_le _, fun x hx => by simp at hx, rfl⟩ ?_)
  rintro m ρ0 G0 ⟨fnd, dk, i, v, e1, e2, f0, D0, hi, cl, em⟩
  subst e1 e2
  have hfa : ∀ (fnd' : List Nat) (dk' : List (Key × W)), (aup (aup G a (.lst (nW fnd'))) d (.dK dk')) a = some (.lst (nW fnd')) := fun _ _ => aup_old hda.symm aup_same
  refine b_lt (qv 6 rfl (q_len B.len (a_cons (qv 4 rfl (a_nil ⟨_, hfa fnd dk, ?_⟩)))))
  rw [nW_length]
  refine ifB_dec (fun hlt' => ?_) (fun hge => ?_)
  · have hi' : i < fnd.length := by omega
    let x := fnd.getD i 0
    have hx : fnd[i]? = some x := at_of hi'
    have hxm : x ∈ fnd := List.mem_of_getElem? hx
    obtain ⟨hx0, pm, hp1, hp2, hp3⟩ := I.P.h x (f0.ok x hxm)
    obtain ⟨kws, N, hP, DP⟩ := I.hP
    have tm := at_of (d := Tm.num 0) hp2
    have nxe : nx x = (arms (tmAt ts pm)).map (Lf ls) := by show nxF ts ls p x = _; unfold nxF; rw [hp1]; rfl
    have Sx : Sub G (aup (aup G a (.lst (nW fnd))) d (.dK dk)) := sub2 ha hd0
    have I1 := I.sub Sx
    refine s_cons (s_for PassesOwn.never rfl (i_tup (q_cal CA hr (a_cons (q_ix (qv 0 rfl (q_dget (u64 hr) (qv 2 rfl (q_ix (qv 4 rfl (qv 6 rfl ?_)))))))))))
    refine fIx_ls (hfa fnd dk) (nW_at hi') ?_
    refine ⟨kws, _, .int pm, hP.sub Sx, keyW_nat _, by rw [DP.get]; show (p x).map _ = _; rw [hp1]; rfl, ?_⟩
    refine fIx_ls I1.hT (tW_at tm) ?_
    refine a_nil ⟨tmAt ts pm, rfl, ?_⟩
    have hia : ∀ b ∈ arms (tmAt ts pm), b < ls.length := (mk_arms I.O.T (ls := ls) I.O.g.len tm).1
    refine ⟨fun j ρ' G' => ∃ (fnd' : List Nat) (dk' : List (Key × W)) (v : Option W), ρ' = [some t, some l, some pd, some (.int lead), some (.ref a), some (.ref d), some (.int i), v] ∧ G' = aup (aup G a (.lst (nW fnd'))) d (.dK dk') ∧ Fnd nx S lead fnd' ∧ DI ts.length dk' (tI (· ∈ fnd')) ∧ (∃ more, fnd' = fnd ++ more) ∧
      (∀ b ∈ (arms (tmAt ts pm)).take j, Lf ls b ∈ fnd'), ⟨fnd, dk, v, rfl, rfl, f0, D0, ⟨[], by simp⟩, fun b hb => by simp at hb⟩, fun _ _ _ _ _ => trivial, fun j z ρ' G' hz ⟨fnd', dk', v, e1, e2, f1, D1, ⟨more, hmore⟩, ht⟩ => ?_, fun ρ' G' ⟨fnd', dk', v, e1, e2, f1, D1, ⟨more, hmore⟩, ht⟩ => ?_⟩
    · obtain ⟨b, hb, rfl⟩ := nW_item hz
      subst e1 e2
      have hbm := List.mem_of_getElem? hb
      have hbl := hia b hbm
      have Sx' : Sub G (aup (aup G a (.lst (nW fnd'))) d (.dK dk')) := sub2 ha hd0
      have I2 := I.sub Sx'
      have hSb : S (Lf ls b) := hp3 b hbm
      have tk : (arms (tmAt ts pm)).take (j + 1) = (arms (tmAt ts pm)).take j ++ [b] := by rw [List.take_succ, hb]; rfl
      have hxm' : x ∈ fnd' := by rw [hmore]; exact List.mem_append_left _ hxm
      refine g_name (i := 7) sc_nl.nd ?_
      refine s_cons (s_if (b_dnin (u64 hr) (q_ix (qv 1 rfl (qv 7 rfl (fIx_ls I2.hL (nW_at hbl) ?_))))))
      refine qv 5 rfl ⟨dk', _, .inl aup_same, keyW_nat _, ?_⟩
      rw [D1.get]
      by_cases hin : ls.getD b 0 ∈ fnd'
      · have e0 : tI (· ∈ fnd') (ls.getD b 0) = some (.bl true) := if_pos hin
        rw [e0]
        refine ifF (s_nil (s_nil ⟨fnd', dk', _, rfl, rfl, f1, D1, ⟨more, hmore⟩, fun y hy => ?_⟩))
        rw [tk] at hy
        rcases List.mem_append.mp hy with hy | hy
        · exact ht y hy
        · simp at hy; subst hy; exact hin
      · have e0 : tI (· ∈ fnd') (ls.getD b 0) = none := if_neg hin
        rw [e0]
        have hnx : Lf ls b ∈ nx x := by rw [nxe]; exact List.mem_map_of_mem hbm
        have f2 := f1.add hxm' hnx hin hSb
        refine ifT (s_cons (s_asg (q_bl (g_dput (u64 hr) (qv 5 rfl (q_ix (qv 1 rfl (qv 7 rfl (fIx_ls I2.hL (nW_at hbl) ?_)))))))))
        refine ⟨dk', _, aup_same, keyW_nat _, D1.small (by omega), ?_⟩
        rw [aup_aup]
        refine s_cons (s_expr (q_append (qv 4 rfl ⟨a, _, rfl, hfa fnd' _, ?_⟩)))
        refine a_cons (q_ix (qv 1 rfl (qv 7 rfl (fIx_ls (I.sub (sub2 (o := .lst (nW fnd')) (u := .dK (pk dk' (.inl ((ls.getD b 0 : Nat) : Int)) (.bl true))) ha hd0)).hL (nW_at hbl) ?_))))
        refine a_nil ⟨_, hfa fnd' _, ?_, ?_⟩
        · rw [nW_length]; exact Nat.lt_of_le_of_lt (Nat.le_trans (fl _ f1) many) (by decide)
        rw [aup2 hda.symm]
        have en : nW fnd' ++ [W.int ((ls.getD b 0 : Nat) : Int)] = nW (fnd' ++ [ls.getD b 0]) := by simp [nW]
        rw [en]
        refine s_nil (s_nil ⟨_, _, _, rfl, rfl, f2, (D1.put (hlt _ hSb) _).cong fun y => ?_, ⟨more ++ [ls.getD b 0], by rw [hmore, List.append_assoc]⟩, fun y hy => ?_⟩)
        · exact tI_add fnd' (ls.getD b 0) y
        · rw [tk] at hy
          rcases List.mem_append.mp hy with hy | hy
          · exact List.mem_append_left _ (ht y hy)
          · simp at hy; subst hy; simp
    · rw [nW_length, List.take_length] at ht
      subst e1 e2
      refine s_cons (s_addI (i := 6) (z := i) sc_nl.nd rfl (q_int ?_))
      have l1 := fl _ f1
      have l2 : fnd.length ≤ fnd'.length := by rw [hmore, List.length_append]; omega
      refine s_nil ⟨ts.length + 1 - (i + 1), by omega, fnd', dk', i + 1, _, rfl, rfl, f1, D1, by omega, fun y hy m hm => ?_, rfl⟩
      have tk : fnd'.take (i + 1) = fnd.take i ++ [x] := by
        rw [hmore, List.take_append_of_le_length (by omega), List.take_succ, hx]; rfl
      rw [tk] at hy
      rcases List.mem_append.mp hy with hy | hy
      · rw [hmore]; exact List.mem_append_left _ (cl y hy m hm)
      · simp at hy; subst hy
        rw [nxe] at hm
        obtain ⟨b, hb, rfl⟩ := List.mem_map.mp hm
        exact ht b hb
  · have hi' : i = fnd.length := by omega
    subst hi'
    rw [List.take_length] at cl
    refine s_cons (s_retV (qv 4 rfl ⟨_, hfa fnd dk, G, fun q v e => ?_, k fnd f0 cl⟩))
    rw [adel_ne (ane_none e ha), aup_ne (ane_none e hd0), aup_ne (ane_none e ha)]; exact e
end
end SW
namespace SW
open PySem PySem.Spec L2 AL
def rwW (p : Nat → Option Nat) (ord : List Nat) : List W := ord.map fun (x : Nat) => W.tup [.int x, .int ((p x).getD 0 : Nat)]
def oR (p : Nat → Option Nat) : Option (List Nat) → W
  | none => .non
  | some ord => .lst (rwW p ord)
theorem rwW_length (p : Nat → Option Nat) (ord : List Nat) : (rwW p ord).length = ord.length := by simp [rwW]
section
variable {P : Program} {w : World} {K : PySem.W.Frag} {mg : Str → Option Value} {base : Heap}
abbrev sRb : Stmt := top 10
abbrev nRb : List Str := ["terms", "leads", "picks", "lead", "wanted", "rows", "done", "grown", "one", "arm"]
theorem sc_rb : FnScope nRb ["terms", "leads", "picks", "lead"] (defScope sRb) := ⟨rfl, rfl, rfl, by decide +kernel, rfl, by decide +kernel, by decide +kernel⟩
def spRb : ASp := fun ws G K _ => ∃ (t l pd : W) (ts : List Tm) (ls : List Nat) (p : Nat → Option Nat) (S : Nat → Prop) (lead : Nat), ws = [t, l, pd, .int lead] ∧ PkIn G t l pd ts ls p S ∧ S lead ∧
  ∀ o, RowsP (nxF ts ls p) lead o → K (oR p o) G
theorem ok_rb {f : Addr} {fd : FuncData} (F : Fun K "rows_by" "rows_by" sRb f fd) (B : Bl mg) (CA : Cal P w K mg base "arms_of" 1 ["term"] spArms) (CN : Cal P w K mg base "needed_leads" 2 ["terms", "leads", "picks", "lead"] spNl) : FnOk P w K mg base CX0 3 f fd ["terms", "leads", "picks", "lead"] (low ⟨P, w, K⟩ spRb) := by
  refine fnA_of F sc_rb (fun ws G Kc KE ⟨t, l, pd, ts, ls, p, S, lead, e, _⟩ => by rw [e]; rfl) fun cdv A outer s H E ws G Kc KE hr ⟨t, l, pd, ts, ls, p, S, lead, e, I, hS, k⟩ => ?_
  subst e
  have many := I.O.T.many
  have hr1 : Room 1 _ := hr.mono (by decide)
  let nx := nxF ts ls p
  have hlt : ∀ x, S x → x < ts.length := fun x hx => (I.P.h x hx).1
  refine s_cons (s_set (i := 4) sc_rb.nd (q_cal CN hr (a_cons (qv 0 rfl (a_cons (qv 1 rfl (a_cons (qv 2 rfl (a_cons (qv 3 rfl (a_nil ⟨t, l, pd, ts, ls, p, S, lead, rfl, I, hS, fun fnd f0 cl => ?_⟩)))))))))))
  have fl : fnd.length ≤ ts.length := nodup_below _ _ f0.nd fun x hx => hlt x (f0.ok x hx)
  refine s_cons (s_set (i := 5) sc_rb.nd (q_lst (a_nil fun a ha => ?_)))
  refine s_cons (s_set (i := 6) sc_rb.nd (q_dnew fun d hd => ?_))
  obtain ⟨hd0, hda⟩ := aup_free hd
  refine s_cons (s_set (i := 7) sc_rb.nd (q_bl ?_))
  have hfa : ∀ (o : AO) (o' : AO), (aup (aup G a o) d o') a = some o := fun _ _ => aup_old hda.symm aup_same
  let stuck : List Nat → Prop := fun ord => ∀ x ∈ fnd, x ∉ ord → ∃ m ∈ nx x, m ∉ ord
  let Pw : Nat → AS → AH → Prop := fun m ρ' G' => ∃ (ord : List Nat) (dk : List (Key × W)) (g : Bool) (v v' : Option W), ρ' = [some t, some l, some pd, some (.int lead), some (.lst (nW fnd)), some (.ref a), some (.ref d), some (.bl g), v, v'] ∧ G' = aup (aup G a (.lst (rwW p ord))) d (.dK dk) ∧
    Top nx ord ∧ (∀ x ∈ ord, x ∈ fnd) ∧ DI ts.length dk (tI (· ∈ ord)) ∧ ((g = true ∧ m = fnd.length - ord.length + 1) ∨ (g = false ∧ m = 0 ∧ stuck ord))
  refine s_cons (s_whileN PassesOwn.never Pw (fnd.length + 1) ⟨[], [], true, none, none, rfl, rfl, Top.nil, (fun x hx => by cases hx), (DI.nil _).cong fun j => by simp [tI], .inl ⟨rfl, rfl⟩⟩ ?_)
  rintro m ρ0 G0 ⟨ord, dk, g, v, v', e1, e2, t0, sub0, D0, alt⟩
  subst e1 e2
  refine b_val (qv 7 rfl ?_)
  refine ifB_of (fun hg => ?_) (fun hg => ?_)
  · subst hg
    have em : m = fnd.length - ord.length + 1 := by
      rcases alt with ⟨_, h⟩ | ⟨h, _⟩
      · exact h
      · cases h
    refine s_cons (s_set (i := 7) sc_rb.nd (q_bl ?_))
    refine s_cons (s_for PassesOwn.never rfl (i_rev rfl B.reversed (qv 4 rfl ⟨nW fnd, rfl, ?_⟩)))
    have rv : (nW fnd).reverse = nW fnd.reverse := by simp [nW]
    rw [rv]
    refine ⟨fun i ρ' G' => ∃ (ord' : List Nat) (dk' : List (Key × W)) (g' : Bool) (v v' : Option W), ρ' = [some t, some l, some pd, some (.int lead), some (.lst (nW fnd)), some (.ref a), some (.ref d), some (.bl g'), v, v'] ∧ G' = aup (aup G a (.lst (rwW p ord'))) d (.dK dk') ∧
      Top nx ord' ∧ (∀ x ∈ ord', x ∈ fnd) ∧ DI ts.length dk' (tI (· ∈ ord')) ∧ ((g' = true ∧ ord.length < ord'.length) ∨ (g' = false ∧ ord' = ord ∧ ∀ x ∈ fnd.reverse.take i, x ∉ ord → ∃ m ∈ nx x, m ∉ ord)), ⟨ord, dk, false, v, v', rfl, rfl, t0, sub0, D0, .inr ⟨rfl, rfl, fun x hx => by simp at hx⟩⟩,
      fun _ _ _ _ _ => rfl, fun i z ρ' G' hz ⟨ord', dk', g', v, v', e1, e2, t1, sub1, D1, alt1⟩ => ?_, fun ρ' G' ⟨ord', dk', g', v, v', e1, e2, t1, sub1, D1, alt1⟩ => ?_⟩
    · obtain ⟨x, hx, rfl⟩ := nW_item hz
      subst e1 e2
      have hxf : x ∈ fnd := List.mem_reverse.mp (List.mem_of_getElem? hx)
      obtain ⟨hx0, pm, hp1, hp2, hp3⟩ := I.P.h x (f0.ok x hxf)
      obtain ⟨kws, N, hP, DP⟩ := I.hP
      have tm := at_of (d := Tm.num 0) hp2
      have nxe : nx x = (arms (tmAt ts pm)).map (Lf ls) := by show nxF ts ls p x = _; unfold nxF; rw [hp1]; rfl
      have Sx : ∀ o o', Sub G (aup (aup G a o) d o') := fun _ _ => sub2 ha hd0
      have tk : fnd.reverse.take (i + 1) = fnd.reverse.take i ++ [x] := by rw [List.take_succ, hx]; rfl
      have hia : ∀ b ∈ arms (tmAt ts pm), b < ls.length := (mk_arms I.O.T (ls := ls) I.O.g.len tm).1
      have har4 := (mk_arms I.O.T (ls := ls) I.O.g.len tm).2
      have hpx : bI p x = some (.int pm) := by show (p x).map _ = _; rw [hp1]; rfl
      refine g_name (i := 8) sc_rb.nd ?_
      have skip : (x ∈ ord' ∨ ∃ m ∈ nx x, m ∉ ord') → ((g' = true ∧ ord.length < ord'.length) ∨ (g' = false ∧ ord' = ord ∧ ∀ x ∈ fnd.reverse.take (i + 1), x ∉ ord → ∃ m ∈ nx x, m ∉ ord)) := fun hs => by
        rcases alt1 with h | ⟨h1, h2, h3⟩
        · exact .inl h
        · refine .inr ⟨h1, h2, fun y hy hn => ?_⟩
          rw [tk] at hy
          rcases List.mem_append.mp hy with hy | hy
          · exact h3 y hy hn
          · simp at hy; subst hy
            subst h2
            rcases hs with hs | hs
            · exact absurd hs hn
            · exact hs
      refine s_cons (s_if (WQ.test (w_and (b_dnin (u64 hr) (qv 8 rfl (qv 6 rfl ⟨dk', _, .inl aup_same, keyW_nat _, ?_⟩))))))
      rw [D1.get]
      by_cases hin : x ∈ ord'
      · have e0 : tI (· ∈ ord') x = some (.bl true) := if_pos hin
        rw [e0]
        exact ifF (ifF (s_nil (s_nil ⟨ord', dk', g', _, _, rfl, rfl, t1, sub1, D1, skip (.inl hin)⟩)))
      · have e0 : tI (· ∈ ord') x = none := if_neg hin
        rw [e0]
        refine ifT (w_and1 (b_val (q_all B.all (a_cons (q_v (q_lc sc_rb.nd (blkOk_by (N := nRb) (sc := defScope sRb) (own := [("arm", 9)]) (by decide +kernel)) (i_tup (q_cal CA hr1 (a_cons (q_ix (qv 0 rfl (q_dget (u64 hr) (qv 2 rfl (qv 8 rfl ?_))))))))))))))
        refine ⟨kws, _, .int pm, hP.sub (Sx _ _), keyW_nat _, by rw [DP.get]; exact hpx, ?_⟩
        refine fIx_ls (I.hT.sub (Sx _ _)) (tW_at tm) ?_
        refine a_nil ⟨tmAt ts pm, rfl, ?_⟩
        refine lk_mapZ (zs := arms (tmAt ts pm)) (fun (k : Nat) => W.int k) (fun k => W.bl (decide (Lf ls k ∈ ord'))) sc_rb.nd (Nat.le_trans har4 (by decide)) (fun _ _ _ => trivial) (fun z hz D ws hD s0 H0 C cl fp => ?_) (fun D hD => ?_)
        · refine q_din (u64 hr) (q_ix (qv 1 rfl (qv 9 rfl (fIx_ls ((I.hL.sub (Sx _ _)).new hD) (nW_at (hia z hz)) ?_))))
          refine qv 6 rfl ⟨dk', _, .inl (aup_new hD aup_same), keyW_nat _, ?_⟩
          rw [D1.get]
          refine ⟨?_, rfl⟩
          show W.bl (tI (· ∈ ord') (ls.getD z 0)).isSome = _
          unfold tI
          by_cases e : ls.getD z 0 ∈ ord'
          · rw [if_pos e, decide_eq_true e]; rfl
          · rw [if_neg e, decide_eq_false e]; rfl
        · refine frz_new hD (a_nil ⟨(arms (tmAt ts pm)).map fun k => decide (Lf ls k ∈ ord'), by rw [List.map_map]; rfl, ?_⟩)
          refine ifB_of (fun hall => ?_) (fun hall => ?_)
          · have hall' : ∀ m ∈ nx x, m ∈ ord' := fun m hm => by
              rw [nxe] at hm
              obtain ⟨b, hb, rfl⟩ := List.mem_map.mp hm
              have := List.all_eq_true.mp hall _ (List.mem_map_of_mem hb)
              exact of_decide_eq_true this
            have ol : ord'.length < ts.length := by
              have := nodup_sub_len (a := x :: ord') (b := fnd) (List.nodup_cons.mpr ⟨hin, t1.nd⟩) fun y hy => by
                rcases List.mem_cons.mp hy with e | hy
                · rw [e]; exact hxf
                · exact sub1 y hy
              rw [List.length_cons] at this; omega
            refine s_cons (s_expr (q_append (qv 5 rfl ⟨a, _, rfl, hfa _ _, ?_⟩)))
            refine a_cons (q_tup (a_cons (qv 8 rfl (a_cons (q_dget (u64 hr) (qv 2 rfl (qv 8 rfl ?_)))))))
            refine ⟨kws, _, .int pm, hP.sub (Sx _ _), keyW_nat _, by rw [DP.get]; exact hpx, ?_⟩
            refine a_nil (a_nil ⟨_, hfa _ _, ?_, ?_⟩)
            · rw [rwW_length]; exact Nat.lt_of_le_of_lt (show ord'.length ≤ 400 by omega) (by decide)
            rw [aup2 hda.symm]
            have en : rwW p ord' ++ [W.tup [W.int ((x : Nat) : Int), W.int ((pm : Nat) : Int)]] = rwW p (ord' ++ [x]) := by simp [rwW, hp1]
            rw [en]
            refine s_cons (s_asg (q_bl (g_dput (u64 hr) (qv 6 rfl (qv 8 rfl ⟨dk', _, aup_same, keyW_nat _, D1.small (by omega), ?_⟩)))))
            rw [aup_aup]
            refine s_cons (s_set (i := 7) sc_rb.nd (q_bl ?_))
            refine s_nil (s_nil ⟨ord' ++ [x], _, true, _, _, rfl, rfl, t1.add hin hall', fun y hy => ?_, (D1.put hx0 _).cong fun y => tI_add ord' x y, .inl ⟨rfl, ?_⟩⟩)
            · rcases List.mem_append.mp hy with hy | hy
              · exact sub1 y hy
              · simp at hy; subst hy; exact hxf
            · rw [List.length_append, List.length_singleton]
              rcases alt1 with ⟨_, h⟩ | ⟨_, h, _⟩
              · omega
              · rw [h]; omega
          · refine s_nil (s_nil ⟨ord', dk', g', _, _, rfl, rfl, t1, sub1, D1, skip (.inr ?_)⟩)
            obtain ⟨bb, hb, hf⟩ := List.all_eq_false.mp hall
            obtain ⟨b, hb2, rfl⟩ := List.mem_map.mp hb
            refine ⟨Lf ls b, by rw [nxe]; exact List.mem_map_of_mem hb2, ?_⟩
            simpa using hf
    · rw [nW_length, List.take_length] at alt1
      subst e1 e2
      refine s_nil ?_
      rcases alt1 with ⟨h1, h2⟩ | ⟨h1, h2, h3⟩
      · subst h1
        have := nodup_sub_len t1.nd sub1
        exact ⟨fnd.length - ord'.length + 1, by omega, ord', dk', true, _, _, rfl, rfl, t1, sub1, D1, .inl ⟨rfl, rfl⟩⟩
      · subst h1 h2
        exact ⟨0, by omega, ord', dk', false, _, _, rfl, rfl, t1, sub1, D1, .inr ⟨rfl, rfl, fun x hx => h3 x (List.mem_reverse.mpr hx)⟩⟩
  · subst hg
    have st : stuck ord := by
      rcases alt with ⟨h, _⟩ | ⟨_, _, h⟩
      · cases h
      · exact h
    refine s_cons (s_if (b_lt (q_len B.len (a_cons (qv 5 rfl (a_nil ⟨_, hfa _ _, ?_⟩))))))
    refine q_len B.len (a_cons (qv 4 rfl (a_nil ?_)))
    have Sx : ∀ o o', Sub G (aup (aup G a o) d o') := fun _ _ => sub2 ha hd0
    rw [rwW_length]
    show ifB (decide ((ord.length : Int) < ((nW fnd).length : Int))) _ _
    rw [nW_length]
    refine ifB_dec (fun h => ?_) (fun h => ?_)
    · exact s_cons (s_ret (q_non ⟨G, Sx _ _, k none (rows_none f0 cl st (by omega))⟩))
    · refine s_nil (s_cons (s_retV (qv 5 rfl ⟨_, hfa _ _, G, fun q v e => ?_, k (some ord) (rows_some f0 t0 sub0 (by omega))⟩)))
      rw [adel_ne (ane_none e ha), aup_ne (ane_none e hd0), aup_ne (ane_none e ha)]; exact e
/-! ### cheapest -/
abbrev sCh : Stmt := top 11
theorem sc_ch : FnScope ["terms", "leads", "costs", "k", "best", "picks", "place", "term", "lead"] ["terms", "leads", "costs", "k"] (defScope sCh) := ⟨rfl, rfl, rfl, by decide +kernel, rfl, by decide +kernel, by decide +kernel⟩
/-- the picks of the first m places -/
def pkStep (ts : List Tm) (ls : List Nat) (c : Tm → Nat) (B : Nat → Nat) (p : Nat → Option Nat) (k : Nat) : Nat → Option Nat := if p (Lf ls k) = none ∧ prN ts ls c B k = B (Lf ls k) then updB p (Lf ls k) k else p
def pkPass (ts : List Tm) (ls : List Nat) (c : Tm → Nat) (B : Nat → Nat) : Nat → Nat → Option Nat
  | 0 => fun _ => none
  | k + 1 => pkStep ts ls c B (pkPass ts ls c B k) k
/-- the first places of the least price -/
structure Pick (ts : List Tm) (ls : List Nat) (c : Tm → Nat) (B : Nat → Nat) (m : Nat) (p : Nat → Option Nat) : Prop where
  some_ : ∀ j k, p j = some k → k < m ∧ Lf ls k = j ∧ prN ts ls c B k = B j ∧ ∀ i, i < k → Lf ls i = j → prN ts ls c B i ≠ B j
  none_ : ∀ j, p j = none → ∀ k, k < m → Lf ls k = j → prN ts ls c B k ≠ B j
theorem pick_ok {ts : List Tm} {ls : List Nat} {c : Tm → Nat} {B : Nat → Nat} : ∀ m, Pick ts ls c B m (pkPass ts ls c B m)
  | 0 => ⟨(fun j k h => by cases h), fun j h k hk => absurd hk (Nat.not_lt_zero _)⟩
  | m + 1 => by
    have ih := pick_ok (ts := ts) (ls := ls) (c := c) (B := B) m
    show Pick ts ls c B (m + 1) (pkStep ts ls c B (pkPass ts ls c B m) m)
    unfold pkStep
    split
    · rename_i h
      refine ⟨fun j k e => ?_, fun j e k hk hl => ?_⟩
      · by_cases z : j = Lf ls m
        · subst z; rw [updB_same] at e; cases e
          exact ⟨by omega, rfl, h.2, fun i hi hl => ih.none_ _ h.1 i hi hl⟩
        · rw [updB_ne z] at e
          obtain ⟨a1, a2, a3, a4⟩ := ih.some_ j k e
          exact ⟨by omega, a2, a3, a4⟩
      · by_cases z : j = Lf ls m
        · subst z; rw [updB_same] at e; cases e
        · rw [updB_ne z] at e
          by_cases hk' : k < m
          · exact ih.none_ j e k hk' hl
          · have : k = m := by omega
            subst this; exact absurd hl.symm z
    · rename_i h
      refine ⟨fun j k e => ?_, fun j e k hk hl => ?_⟩
      · obtain ⟨a1, a2, a3, a4⟩ := ih.some_ j k e
        exact ⟨by omega, a2, a3, a4⟩
      · by_cases hk' : k < m
        · exact ih.none_ j e k hk' hl
        · have : k = m := by omega
          subst this
          subst hl
          exact fun z => h ⟨e, z⟩
end
end SW
namespace SW
open PySem PySem.Spec L2 AL
/-- what cheapest tells -/
structure ChR (ts : List Tm) (ls : List Nat) (c : Tm → Nat) (lead : Nat) (B : Nat → Nat) (p : Nat → Option Nat) (ord : List Nat) : Prop where
  best : ∃ b, Best ts ls c b B
  pick : Pick ts ls c B ts.length p
  ord : Ord (nxF ts ls p) lead ord
/-- a class by its lead -/
def isLd (ts : List Tm) (ls : List Nat) (l : Nat) : Prop := l < ts.length ∧ Lf ls l = l
theorem ld_of {ts : List Tm} {ls : List Nat} (O : LsOk ts ls) {k : Nat} (h : k < ts.length) : isLd ts ls (Lf ls k) := ⟨O.g.lt h, O.g.idem k h⟩
theorem arms_lt {ts : List Tm} {ls : List Nat} (O : LsOk ts ls) {k : Nat} (h : k < ts.length) {a : Nat} (ha : a ∈ arms (tmAt ts k)) : a < k := by
  have tm := at_of (d := Tm.num 0) h
  cases ht : tmAt ts k with
  | num n => rw [ht] at ha; cases ha
  | name n => rw [ht] at ha; cases ha
  | of w ks =>
    have ht : ts.getD k (Tm.num 0) = .of w ks := ht
    rw [ht] at tm
    rw [show tmAt ts k = .of w ks from ht] at ha
    exact O.T.wf k w ks tm a ha
theorem pick_at {ts : List Tm} {ls : List Nat} {c : Tm → Nat} {b : Nat → Option Nat} {B : Nat → Nat} {p : Nat → Option Nat} (be : Best ts ls c b B) (pi : Pick ts ls c B ts.length p) {l : Nat} (h : isLd ts ls l) : ∃ m, p l = some m ∧ m < ts.length ∧ Lf ls m = l ∧ prN ts ls c B m = B l ∧ ∀ i, i < m → Lf ls i = l → prN ts ls c B i ≠ B l := by
  cases e : p l with
  | none =>
    obtain ⟨m, h1, h2, h3⟩ := be.at' l h.1
    rw [h.2] at h2 h3
    exact absurd h3 (pi.none_ l e m h1 h2)
  | some m =>
    obtain ⟨a1, a2, a3, a4⟩ := pi.some_ l m e
    exact ⟨m, rfl, a1, a2, a3, a4⟩
theorem pick_pk {ts : List Tm} {ls : List Nat} {c : Tm → Nat} {b : Nat → Option Nat} {B : Nat → Nat} {p : Nat → Option Nat} (O : LsOk ts ls) (be : Best ts ls c b B) (pi : Pick ts ls c B ts.length p) : PkOk ts ls p (isLd ts ls) :=
  ⟨fun l h => ⟨h.1, let ⟨m, h1, h2, _⟩ := pick_at be pi h; ⟨m, h1, h2, fun a ha => ld_of O (Nat.lt_trans (arms_lt O h2 ha) h2)⟩⟩⟩
theorem sum_mem_le : ∀ {l : List Nat} {x : Nat}, x ∈ l → x ≤ l.sum
  | y :: l, x, h => by
    rw [List.sum_cons]
    rcases List.mem_cons.mp h with e | h
    · omega
    · have := sum_mem_le h; omega
theorem pick_falls {ts : List Tm} {ls : List Nat} {c : Tm → Nat} {b : Nat → Option Nat} {B : Nat → Nat} {p : Nat → Option Nat} (O : LsOk ts ls) (hc : ∀ t, 1 ≤ c t) (be : Best ts ls c b B) (pi : Pick ts ls c B ts.length p) {l : Nat} (h : isLd ts ls l) {m : Nat} (hm : m ∈ nxF ts ls p l) : B m < B l := by
  obtain ⟨k, h1, h2, h3, h4, _⟩ := pick_at be pi h
  unfold nxF at hm
  rw [h1] at hm
  obtain ⟨a, ha, rfl⟩ := List.mem_map.mp hm
  have ha : a ∈ arms (tmAt ts k) := ha
  unfold prN at h4
  have := sum_mem_le (List.mem_map_of_mem (f := fun a => B (Lf ls a)) ha)
  have := hc (tmAt ts k)
  have e : B (Lf ls a) = (fun a => B (Lf ls a)) a := rfl
  omega
theorem reach_ok {ts : List Tm} {ls : List Nat} {p : Nat → Option Nat} {S : Nat → Prop} (P : PkOk ts ls p S) {lead l : Nat} (h : S lead) (r : Reach (nxF ts ls p) lead l) : S l := by
  induction r with
  | refl => exact h
  | step _ hm ih => exact P.nx ih hm
section
variable {P : Program} {w : World} {K : PySem.W.Frag} {mg : Str → Option Value} {base : Heap}
def spCh : ASp := fun ws G K _ => ∃ (t l d : W) (ts : List Tm) (ls : List Nat) (kws : List (Key × W)) (k : Nat), ws = [t, l, d, .int k] ∧ LsA G t (tW ts) ∧ LsA G l (nW ls) ∧ DkA G d kws ∧ CsOk kws ∧ LsOk ts ls ∧ k < ts.length ∧
  ∀ B p ord, ChR ts ls (cst kws) (Lf ls k) B p ord → K (.tup [.int (B (Lf ls k) : Nat), .lst (rwW p ord)]) G
theorem ok_ch {f : Addr} {fd : FuncData} (F : Fun K "cheapest" "cheapest" sCh f fd) (B : Bl mg) (CB : Cal P w K mg base "best_prices" 3 ["terms", "leads", "costs"] spBp) (CP : Cal P w K mg base "price_by" 2 ["term", "leads", "costs", "best"] spPb)
    (CR : Cal P w K mg base "rows_by" 3 ["terms", "leads", "picks", "lead"] spRb) : FnOk P w K mg base CX0 4 f fd ["terms", "leads", "costs", "k"] (low ⟨P, w, K⟩ spCh) := by
  refine fnA_of F sc_ch (fun ws G Kc KE ⟨t, l, d, ts, ls, kws, k, e, _⟩ => by rw [e]; rfl) fun cdv A outer s H E ws G Kc KE hr ⟨t, l, d, ts, ls, kws, k, e, hT, hL, hD, hC, O, hk, kk⟩ => ?_
  subst e
  have many := O.T.many
  have hr2 : Room 2 _ := hr.mono (by decide)
  refine s_cons (s_set (i := 4) sc_ch.nd (q_cal CB hr (a_cons (qv 0 rfl (a_cons (qv 1 rfl (a_cons (qv 2 rfl (a_nil ⟨t, l, d, ts, ls, kws, rfl, hT, hL, hD, hC, O, fun bp bk b Bf hbp DB be => ?_⟩)))))))))
  refine s_cons (s_set (i := 5) sc_ch.nd (q_dnew fun pp hpp => ?_))
  obtain ⟨hpp0, hpb⟩ := aup_free hpp
  let c := cst kws
  have Sx : ∀ o o', Sub G (aup (aup G bp o) pp o') := fun _ _ => sub2 hbp hpp0
  have hb : ∀ o o', (aup (aup G bp o) pp o') bp = some o := fun _ _ => aup_old hpb.symm aup_same
  refine s_cons (s_for PassesOwn.never rfl (i_enum rfl B.enumerate (qv 0 rfl ⟨_, hT.sub (Sx _ _), ?_⟩)))
  refine ⟨fun i ρ' G' => ∃ (pk : List (Key × W)) (v1 v2 v3 : Option W), ρ' = [some t, some l, some d, some (.int k), some (.ref bp), some (.ref pp), v1, v2, v3] ∧ G' = aup (aup G bp (.dK bk)) pp (.dK pk) ∧ DI ts.length pk (bI (pkPass ts ls c Bf i)), ⟨[], none, none, none, rfl, rfl, (DI.nil _).cong fun _ => rfl⟩,
    fun i ρ' G' _ ⟨_, _, _, _, _, e2, _⟩ => by rw [e2]; exact hT.sub (Sx _ _), fun i x ρ' G' hx ⟨pk, v1, v2, v3, e1, e2, DP⟩ => ?_, fun ρ' G' ⟨pk, v1, v2, v3, e1, e2, DP⟩ => ?_⟩
  · obtain ⟨tw, ht, rfl⟩ := enW_item hx
    obtain ⟨tm, htm, rfl⟩ := tW_item ht
    have hi : i < ts.length := (List.getElem?_eq_some_iff.mp htm).1
    have hil : i < ls.length := by rw [O.g.len]; exact hi
    subst e1 e2
    have har : ∀ k ∈ arms tm, k < ls.length := (mk_arms O.T (ls := ls) O.g.len htm).1
    have hlt : ls.getD i 0 < ts.length := O.g.lt hi
    have step : pkPass ts ls c Bf (i + 1) = pkStep ts ls c Bf (pkPass ts ls c Bf i) i := rfl
    generalize pkPass ts ls c Bf i = p0 at step DP ⊢
    refine g_tup rfl (gs_cons (g_name (i := 6) sc_ch.nd (gs_cons (g_name (i := 7) sc_ch.nd (gs_nil ?_)))))
    refine s_cons (s_set (i := 8) sc_ch.nd (q_ix (qv 1 rfl (qv 6 rfl (fIx_ls (hL.sub (Sx _ _)) (nW_at hil) ?_)))))
    refine s_cons (s_if (WQ.test (w_and (b_dnin (u64 hr) (qv 8 rfl (qv 5 rfl ⟨pk, _, .inl aup_same, keyW_nat _, ?_⟩))))))
    rw [DP.get]
    cases hp : p0 (ls.getD i 0) with
    | some v =>
      have e0 : bI p0 (ls.getD i 0) = some (.int v) := by unfold bI; rw [hp]; rfl
      rw [e0]
      have es : pkStep ts ls c Bf p0 i = p0 := by unfold pkStep; rw [if_neg (fun z => by rw [show p0 (Lf ls i) = some v from hp] at z; cases z.1)]
      rw [es] at step
      exact ifF (ifF (s_nil (s_nil ⟨pk, _, _, _, rfl, rfl, by rw [step]; exact DP⟩)))
    | none =>
      have e0 : bI p0 (ls.getD i 0) = none := by unfold bI; rw [hp]; rfl
      rw [e0]
      refine ifT (w_and1 (b_eq (u64 hr) (q_cal CP hr2 (a_cons (qv 7 rfl (a_cons (qv 1 rfl (a_cons (qv 2 rfl (a_cons (qv 4 rfl (a_nil ⟨tm, l, d, .ref bp, ls, kws, bk, ts.length, b, rfl, hL.sub (Sx _ _), hD.sub (Sx _ _), hC, .inl (hb _ _), DB, har, ?_⟩))))))))))))
      have pe : priceM (cst kws tm) ((arms tm).map fun a => b (Lf ls a)) = some (prN ts ls c Bf i) := by
        rw [← be.pr i hi]; unfold prO; rw [tmAt_of htm]
      rw [pe]
      refine q_dget (u64 hr) (qv 4 rfl (qv 8 rfl ⟨bk, _, .int (Bf (Lf ls i) : Nat), .inl (hb _ _), keyW_nat _, by rw [DB.get]; show (b (Lf ls i)).map _ = _; rw [be.val i hi]; rfl, ?_⟩))
      refine ifB_dec (fun h => ?_) (fun h => ?_)
      · have es : pkStep ts ls c Bf p0 i = updB p0 (Lf ls i) i := by unfold pkStep; rw [if_pos ⟨hp, by omega⟩]
        rw [es] at step
        refine s_cons (s_asg (qv 6 rfl (g_dput (u64 hr) (qv 5 rfl (qv 8 rfl ⟨pk, _, aup_same, keyW_nat _, DP.small (by omega), ?_⟩)))))
        rw [aup_aup]
        exact s_nil (s_nil ⟨_, _, _, _, rfl, rfl, by rw [step]; exact (DP.put hlt _).cong fun j => bI_upd j⟩)
      · have es : pkStep ts ls c Bf p0 i = p0 := by unfold pkStep; rw [if_neg fun z => h (by rw [z.2])]
        rw [es] at step
        exact s_nil (s_nil ⟨pk, _, _, _, rfl, rfl, by rw [step]; exact DP⟩)
  · rw [enW_length, tW_length] at DP
    subst e1 e2
    have pi := pick_ok (ts := ts) (ls := ls) (c := c) (B := Bf) ts.length
    generalize pkPass ts ls c Bf ts.length = p at pi DP
    have hkl : k < ls.length := by rw [O.g.len]; exact hk
    refine s_cons (s_ret (q_tup (a_cons (q_dget (u64 hr) (qv 4 rfl (q_ix (qv 1 rfl (qv 3 rfl (fIx_ls (hL.sub (Sx _ _)) (nW_at hkl) ?_)))))))))
    refine ⟨bk, _, .int (Bf (Lf ls k) : Nat), .inl (hb _ _), keyW_nat _, by rw [DB.get]; show (b (Lf ls k)).map _ = _; rw [be.val k hk]; rfl, ?_⟩
    refine a_cons (q_cal CR hr (a_cons (qv 0 rfl (a_cons (qv 1 rfl (a_cons (qv 5 rfl (a_cons (q_ix (qv 1 rfl (qv 3 rfl (fIx_ls (hL.sub (Sx _ _)) (nW_at hkl) ?_))))))))))) )
    refine a_nil ⟨t, l, .ref pp, ts, ls, p, isLd ts ls, Lf ls k, rfl, ⟨hT.sub (Sx _ _), hL.sub (Sx _ _), ⟨pk, ts.length, .inl aup_same, DP⟩, O, pick_pk O be pi⟩, ld_of O hk, fun o ho => ?_⟩
    cases o with
    | none => exact absurd (fun x hx m hm => pick_falls O (fun t => cst_pos hC t) be pi (reach_ok (pick_pk O be pi) (ld_of O hk) hx) hm) (ho Bf)
    | some ord => exact a_nil ⟨G, Sx _ _, kk Bf p ord ⟨⟨b, be⟩, pi, ho⟩⟩
end
end SW
namespace SW
open PySem PySem.Spec L2 AL
/-! ### trees -/
inductive Tr where
  | num (n : Int)
  | name (x : Str)
  | of (w : Str) (xs : List Tr)
mutual
def Tr.W : Tr → AL.W
  | .num n => (Tm.num n).W
  | .name x => (Tm.name x).W
  | .of w xs => .tup [.str "of", .str w, .tup (Tr.Ws xs)]
def Tr.Ws : List Tr → List AL.W
  | [] => []
  | x :: xs => Tr.W x :: Tr.Ws xs
end
theorem Tr.Ws_map : ∀ xs : List Tr, Tr.Ws xs = xs.map Tr.W
  | [] => rfl
  | x :: xs => by rw [Tr.Ws, Tr.Ws_map xs]; rfl
def maxL (xs : List Nat) : Nat := xs.foldl max 0
def szF (nx : Nat → List Nat) (S : Nat → Nat × Nat) (x : Nat) : Nat × Nat := (1 + ((nx x).map fun m => (S m).1).sum, maxL ((nx x).map fun m => (S m).2) + 1)
def trF (ts : List Tm) (ls : List Nat) (p : Nat → Option Nat) (T : Nat → Tr) (x : Nat) : Tr := match tmAt ts ((p x).getD 0) with
  | .of w ks => .of w (ks.map fun a => T (Lf ls a))
  | .num n => .num n
  | .name x => .name x
def szW (s : Nat × Nat) : W := .tup [.int (s.1 : Nat), .int (s.2 : Nat)]
def onOrd {α : Type} (ord : List Nat) (f : Nat → α) (g : α → W) : Nat → Option W := fun j => if j ∈ ord then some (g (f j)) else none
theorem onOrd_add {α : Type} {ord : List Nat} {f : Nat → α} {g : α → W} {i x : Nat} (h : ord[i]? = some x) (j : Nat) : (if j = x then some (g (f x)) else onOrd (ord.take i) f g j) = onOrd (ord.take (i + 1)) f g j := by
  unfold onOrd
  rw [List.take_succ, h, Option.toList_some]
  by_cases e : j = x
  · subst e; simp
  · simp [e]
section
variable {P : Program} {w : World} {K : PySem.W.Frag} {mg : Str → Option Value} {base : Heap}
/-- terms, leads, a choice as they are handed in -/
structure OIn (G : AH) (t l ch : W) (ts : List Tm) (ls : List Nat) (p : Nat → Option Nat) (ord : List Nat) : Prop where
  hT : LsA G t (tW ts)
  hL : LsA G l (nW ls)
  hC : LsA G ch (rwW p ord)
  O : LsOk ts ls
  top : Top (nxF ts ls p) ord
  pk : ∀ x ∈ ord, x < ts.length ∧ ∃ m, p x = some m ∧ m < ts.length
theorem OIn.sub {G G' : AH} {t l ch : W} {ts : List Tm} {ls : List Nat} {p : Nat → Option Nat} {ord : List Nat} (h : OIn G t l ch ts ls p ord) (s : Sub G G') : OIn G' t l ch ts ls p ord := ⟨h.hT.sub s, h.hL.sub s, h.hC.sub s, h.O, h.top, h.pk⟩
theorem rw_item {p : Nat → Option Nat} {ord : List Nat} {i : Nat} {x : W} (h : (rwW p ord)[i]? = some x) : ∃ k : Nat, ord[i]? = some k ∧ W.tup [.int k, .int ((p k).getD 0 : Nat)] = x := by
  rw [rwW, List.getElem?_map] at h; exact Option.map_eq_some_iff.mp h
abbrev sSz : Stmt := top 12
theorem sc_sz : FnScope ["terms", "leads", "choice", "sizes", "lead", "k", "many", "deep", "arm"] ["terms", "leads", "choice"] (defScope sSz) := ⟨rfl, rfl, rfl, by decide +kernel, rfl, by decide +kernel, by decide +kernel⟩
def spSz : ASp := fun ws G K _ => ∃ (t l ch : W) (ts : List Tm) (ls : List Nat) (p : Nat → Option Nat) (ord : List Nat) (S : Nat → Nat × Nat), ws = [t, l, ch] ∧ OIn G t l ch ts ls p ord ∧ (∀ x ∈ ord, S x = szF (nxF ts ls p) S x) ∧
  ∀ a bk, G a = none → DI ts.length bk (onOrd ord S szW) → K (.ref a) (aup G a (.dK bk))
theorem ok_sz {f : Addr} {fd : FuncData} (F : Fun K "sizes_by" "sizes_by" sSz f fd) (B : Bl mg) (CA : Cal P w K mg base "arms_of" 1 ["term"] spArms) : FnOk P w K mg base CX0 2 f fd ["terms", "leads", "choice"] (low ⟨P, w, K⟩ spSz) := by
  refine fnA_of F sc_sz (fun ws G Kc KE ⟨t, l, ch, ts, ls, p, ord, S, e, _⟩ => by rw [e]; rfl) fun cdv A outer s H E ws G Kc KE hr ⟨t, l, ch, ts, ls, p, ord, S, e, I, hS, k⟩ => ?_
  subst e
  have many := I.O.T.many
  refine s_cons (s_set (i := 3) sc_sz.nd (q_dnew fun a ha => ?_))
  have Sx : ∀ o, Sub G (aup G a o) := fun _ => Sub.new ha
  refine s_cons (s_for PassesOwn.never rfl (i_list (qv 2 rfl ⟨_, (I.sub (Sx _)).hC, ?_⟩)))
  refine ⟨fun i ρ' G' => ∃ (bk : List (Key × W)) (v1 v2 v3 v4 v5 : Option W), ρ' = [some t, some l, some ch, some (.ref a), v1, v2, v3, v4, v5] ∧ G' = aup G a (.dK bk) ∧ DI ts.length bk (onOrd (ord.take i) S szW), ⟨[], none, none, none, none, none, rfl, rfl, (DI.nil _).cong fun j => by simp [onOrd]⟩,
    fun i ρ' G' _ ⟨_, _, _, _, _, _, _, e2, _⟩ => by rw [e2]; exact (I.sub (Sx _)).hC, fun i z ρ' G' hz ⟨bk, v1, v2, v3, v4, v5, e1, e2, D⟩ => ?_, fun ρ' G' ⟨bk, v1, v2, v3, v4, v5, e1, e2, D⟩ => ?_⟩
  · obtain ⟨x, hx, rfl⟩ := rw_item hz
    subst e1 e2
    obtain ⟨hxl, m, hp, hm⟩ := I.pk x (List.mem_of_getElem? hx)
    rw [hp]
    have tm := at_of (d := Tm.num 0) hm
    have nxe : nxF ts ls p x = (arms (tmAt ts m)).map (Lf ls) := by unfold nxF; rw [hp]; rfl
    have hia : ∀ b ∈ arms (tmAt ts m), b < ls.length := (mk_arms I.O.T (ls := ls) I.O.g.len tm).1
    have ah := I.top.ahead i x hx
    rw [nxe] at ah
    have ex := hS x (List.mem_of_getElem? hx)
    unfold szF at ex
    rw [nxe, List.map_map, List.map_map] at ex
    refine g_tup rfl (gs_cons (g_name (i := 4) sc_sz.nd (gs_cons (g_name (i := 5) sc_sz.nd (gs_nil ?_)))))
    refine s_cons (s_set (i := 6) sc_sz.nd (q_int ?_))
    refine s_cons (s_set (i := 7) sc_sz.nd (q_int ?_))
    refine s_cons (s_for PassesOwn.never rfl (i_tup (q_cal CA hr (a_cons (q_ix (qv 0 rfl (qv 5 rfl (fIx_ls (I.sub (Sx _)).hT (tW_at tm) ?_))))))))
    refine a_nil ⟨tmAt ts m, rfl, ?_⟩
    let as := arms (tmAt ts m)
    refine ⟨fun j ρ' G' => ∃ v5, ρ' = [some t, some l, some ch, some (.ref a), some (.int x), some (.int m), some (.int (1 + ((as.take j).map fun b => (S (Lf ls b)).1).sum : Nat)), some (.int (maxL ((as.take j).map fun b => (S (Lf ls b)).2) : Nat)), v5] ∧ G' = aup G a (.dK bk), ⟨v5, rfl, rfl⟩, fun _ _ _ _ _ => trivial, fun j z ρ' G' hz ⟨v5, e1, e2⟩ => ?_, fun ρ' G' ⟨v5, e1, e2⟩ => ?_⟩
    · obtain ⟨b, hb, rfl⟩ := nW_item hz
      subst e1 e2
      have hbm := List.mem_of_getElem? hb
      have hbl := hia b hbm
      have hin : Lf ls b ∈ ord.take i := ah _ (List.mem_map_of_mem hbm)
      have look : lk bk (.inl ((Lf ls b : Nat) : Int)) = some (szW (S (Lf ls b))) := by rw [D.get]; unfold onOrd; rw [if_pos hin]
      have tk : as.take (j + 1) = as.take j ++ [b] := by rw [List.take_succ]; show _ ++ (arms (tmAt ts m))[j]?.toList = _; rw [hb]; rfl
      refine g_name (i := 8) sc_sz.nd ?_
      refine s_cons (s_addI (i := 6) (z := ((1 + ((as.take j).map fun b => (S (Lf ls b)).1).sum : Nat) : Int)) sc_sz.nd rfl (q_ix (q_dget (u64 hr) (qv 3 rfl (q_ix (qv 1 rfl (qv 8 rfl (fIx_ls (I.sub (Sx _)).hL (nW_at hbl) ?_))))))))
      refine ⟨bk, _, _, .inl aup_same, keyW_nat _, look, q_int ?_⟩
      refine s_cons (s_set (i := 7) sc_sz.nd (q_max2 B.max (a_cons (qv 7 rfl (a_cons (q_ix (q_dget (u64 hr) (qv 3 rfl (q_ix (qv 1 rfl (qv 8 rfl (fIx_ls (I.sub (Sx _)).hL (nW_at hbl) ?_))))))))))))
      refine ⟨bk, _, _, .inl aup_same, keyW_nat _, look, q_int (a_nil ?_)⟩
      refine s_nil ⟨some (.int (b : Nat)), ?_, rfl⟩
      rw [tk, List.map_append, List.map_append, List.sum_append]
      have e1 : ((1 + ((as.take j).map fun b => (S (Lf ls b)).1).sum : Nat) : Int) + (((S (Lf ls b)).1 : Nat) : Int) = ((1 + (((as.take j).map fun b => (S (Lf ls b)).1).sum + ([b].map fun b => (S (Lf ls b)).1).sum) : Nat) : Int) := by
        show _ = ((1 + (_ + ((S (Lf ls b)).1 + 0)) : Nat) : Int)
        omega
      have e2 : (if (((S (Lf ls b)).2 : Nat) : Int) > ((maxL ((as.take j).map fun b => (S (Lf ls b)).2) : Nat) : Int) then (((S (Lf ls b)).2 : Nat) : Int) else ((maxL ((as.take j).map fun b => (S (Lf ls b)).2) : Nat) : Int)) = ((maxL (((as.take j).map fun b => (S (Lf ls b)).2) ++ [b].map fun b => (S (Lf ls b)).2) : Nat) : Int) := by
        unfold maxL
        rw [List.foldl_append]
        show _ = ((max _ (S (Lf ls b)).2 : Nat) : Int)
        exact max_cast _ _
      rw [← e1, ← e2]
      rfl
    · have tl : as.take (nW as).length = as := by rw [nW_length, List.take_length]
      have e1 : ρ' = [some t, some l, some ch, some (.ref a), some (.int x), some (.int m), some (.int (1 + ((as.take (nW as).length).map fun b => (S (Lf ls b)).1).sum : Nat)), some (.int (maxL ((as.take (nW as).length).map fun b => (S (Lf ls b)).2) : Nat)), v5] := e1
      rw [tl] at e1
      subst e1 e2
      refine s_cons (s_asg (q_tup (a_cons (qv 6 rfl (a_cons (q_add (qv 7 rfl (q_int ?_))))))))
      refine a_nil (g_dput (u64 hr) (qv 3 rfl (qv 4 rfl ⟨bk, _, aup_same, keyW_nat _, D.small (by omega), ?_⟩)))
      rw [aup_aup]
      refine s_nil ⟨_, _, _, _, _, _, rfl, rfl, (D.put hxl _).cong fun j => ?_⟩
      rw [← onOrd_add hx j]
      have : W.tup [W.int ((1 + (as.map fun b => (S (Lf ls b)).1).sum : Nat) : Int), W.int (((maxL (as.map fun b => (S (Lf ls b)).2) : Nat) : Int) + 1)] = szW (S x) := by
        rw [ex]; rfl
      rw [← this]
  · rw [rwW_length, List.take_length] at D
    subst e1 e2
    exact s_cons (s_ret (qv 3 rfl ⟨_, Sub.refl, k a bk ha D⟩))
/-! ### taken -/
abbrev sTk : Stmt := top 13
abbrev nTk : List Str := ["terms", "leads", "choice", "last", "size", "trees", "lead", "k", "term", "arm"]
theorem sc_tk : FnScope nTk ["terms", "leads", "choice"] (defScope sTk) := ⟨rfl, rfl, rfl, by decide +kernel, rfl, by decide +kernel, by decide +kernel⟩
def bigS (s : Nat × Nat) : Prop := 500 < s.1 ∨ 60 < s.2
def spTk (C : Addr) : ASp := fun ws G K KE => ∃ (t l ch : W) (ts : List Tm) (ls : List Nat) (p : Nat → Option Nat) (ord : List Nat) (S : Nat → Nat × Nat) (T : Nat → Tr) (lead : Nat), ws = [t, l, ch] ∧ OIn G t l ch ts ls p ord ∧ (∀ x ∈ ord, S x = szF (nxF ts ls p) S x) ∧ (∀ x ∈ ord, T x = trF ts ls p T x) ∧ ord.getLast? = some lead ∧
  (bigS (S lead) → KE (.ref C) none G) ∧ (¬ bigS (S lead) → K (T lead).W G)
theorem last_at {α : Type} {xs : List α} {x : α} (h : xs.getLast? = some x) : 0 < xs.length ∧ xs[xs.length - 1]? = some x := by
  rw [List.getLast?_eq_getElem?] at h
  have := (List.getElem?_eq_some_iff.mp h).1
  exact ⟨by omega, h⟩
theorem atI_last {xs : List W} {x : W} (h : xs[xs.length - 1]? = some x) (h0 : 0 < xs.length) : atI xs (-1) = some x := by
  have : ixN xs.length (-1) = some (xs.length - 1) := by
    unfold ixN
    rw [if_neg (by omega), if_pos (by omega)]
    congr 1
    omega
  unfold atI
  rw [this]
  exact h
theorem ok_tk {C : Addr} {f : Addr} {fd : FuncData} (F : Fun K "taken" "taken" sTk f fd) (B : Bl mg) (TB : ExcT K mg "TooBig" C) (CS : Cal P w K mg base "sizes_by" 2 ["terms", "leads", "choice"] spSz) : FnOk P w K mg base (L2.CX P w) 3 f fd ["terms", "leads", "choice"] (low ⟨P, w, K⟩ (spTk C)) := by
  refine fnA_ofX F sc_tk (fun ws G Kc KE ⟨t, l, ch, ts, ls, p, ord, S, T, lead, e, _⟩ => by rw [e]; rfl) fun cdv A outer s H E ws G Kc KE hr ⟨t, l, ch, ts, ls, p, ord, S, T, lead, e, I, hS, hT, hl, kb, kk⟩ th => ?_
  subst e
  have many := I.O.T.many
  obtain ⟨h0, hla⟩ := last_at hl
  have hlm : lead ∈ ord := List.mem_of_getElem? hla
  have rla : atI (rwW p ord) (-1) = some (.tup [.int (lead : Nat), .int ((p lead).getD 0 : Nat)]) := by
    refine atI_last ?_ (by rw [rwW_length]; exact h0)
    rw [rwW_length, rwW, List.getElem?_map, hla]; rfl
  refine s_cons (s_set (i := 3) sc_tk.nd (q_ix (q_ix (qv 2 rfl (q_neg (q_int ?_))))))
  dsimp only [onI]
  refine fIx_ls I.hC rla ?_
  refine q_int ?_
  refine s_cons (s_set (i := 4) sc_tk.nd (q_dget (u64 hr) (q_cal CS hr (a_cons (qv 0 rfl (a_cons (qv 1 rfl (a_cons (qv 2 rfl (a_nil ⟨t, l, ch, ts, ls, p, ord, S, rfl, I, hS, fun a bk ha D => ?_⟩))))))))))
  refine qv 3 rfl ⟨bk, _, szW (S lead), .inl aup_same, keyW_nat _, by rw [D.get]; unfold onOrd; rw [if_pos hlm], ?_⟩
  have Sa : Sub G (aup G a (.dK bk)) := Sub.new ha
  refine s_cons (s_if (WQ.test (w_or (b_gt (q_ix (qv 4 rfl (q_int ?_)))))))
  refine q_int ?_
  refine ifB_dec (fun hb => ifT (s_cons (s_raise th TB ⟨G, Sa, kb (.inl (by omega))⟩))) (fun hb => ?_)
  refine w_or1 (b_gt (q_ix (qv 4 rfl (q_int ?_))))
  refine q_int ?_
  refine ifB_dec (fun hb2 => (s_cons (s_raise th TB ⟨G, Sa, kb (.inr (by omega))⟩))) (fun hb2 => ?_)
  have nb : ¬ bigS (S lead) := fun z => by
    rcases z with z | z
    · exact hb (by omega)
    · exact hb2 (by omega)
  refine s_nil (s_cons (s_set (i := 5) sc_tk.nd (q_dnew fun d hd => ?_)))
  obtain ⟨hd0, hda⟩ := aup_free hd
  have Sx : ∀ o, Sub G (aup (aup G a (.dK bk)) d o) := fun _ => sub2 ha hd0
  refine s_cons (s_for (L2.passes_of rfl) rfl (i_list (qv 2 rfl ⟨_, (I.sub (Sx _)).hC, ?_⟩)))
  refine ⟨fun i ρ' G' => ∃ (dk : List (Key × W)) (v1 v2 v3 v4 : Option W), ρ' = [some t, some l, some ch, some (.int lead), some (szW (S lead)), some (.ref d), v1, v2, v3, v4] ∧ G' = aup (aup G a (.dK bk)) d (.dK dk) ∧ DI ts.length dk (onOrd (ord.take i) T Tr.W), ⟨[], none, none, none, none, rfl, rfl, (DI.nil _).cong fun j => by simp [onOrd]⟩,
    fun i ρ' G' _ ⟨_, _, _, _, _, _, e2, _⟩ => by rw [e2]; exact (I.sub (Sx _)).hC, fun i z ρ' G' hz ⟨dk, v1, v2, v3, v4, e1, e2, D⟩ => ?_, fun ρ' G' ⟨dk, v1, v2, v3, v4, e1, e2, D⟩ => ?_⟩
  · obtain ⟨x, hx, rfl⟩ := rw_item hz
    subst e1 e2
    obtain ⟨hxl, m, hp, hm⟩ := I.pk x (List.mem_of_getElem? hx)
    rw [hp]
    have tm := at_of (d := Tm.num 0) hm
    have nxe : nxF ts ls p x = (arms (tmAt ts m)).map (Lf ls) := by unfold nxF; rw [hp]; rfl
    have hia : (∀ k ∈ arms (tmAt ts m), k < ls.length) ∧ (arms (tmAt ts m)).length ≤ 4 := (mk_arms I.O.T (ls := ls) I.O.g.len tm)
    have ah := I.top.ahead i x hx
    rw [nxe] at ah
    have ex := hT x (List.mem_of_getElem? hx)
    unfold trF at ex
    rw [hp] at ex
    have ex : T x = (match tmAt ts m with | .of w ks => .of w (ks.map fun a => T (Lf ls a)) | .num n => .num n | .name x => .name x) := ex
    have tm : ts[m]? = some (tmAt ts m) := tm
    refine g_tup rfl (gs_cons (g_name (i := 6) sc_tk.nd (gs_cons (g_name (i := 7) sc_tk.nd (gs_nil ?_)))))
    refine s_cons (s_set (i := 8) sc_tk.nd (q_ix (qv 0 rfl (qv 7 rfl (fIx_ls (I.sub (Sx _)).hT (tW_at tm) ?_)))))
    refine s_cons (s_cut (P := fun ρ2 G2 => ∃ v, ρ2 = [some t, some l, some ch, some (.int lead), some (szW (S lead)), some (.ref d), some (.int x), some (.int m), some (T x).W, v] ∧ G2 = aup (aup G a (.dK bk)) d (.dK dk)) ?_ ?_)
    rotate_left
    · rintro ρ2 G2 ⟨v, rfl, rfl⟩
      refine s_cons (s_asg (qv 8 rfl (g_dput (u64 hr) (qv 5 rfl (qv 6 rfl ⟨dk, _, aup_same, keyW_nat _, D.small (by omega), ?_⟩)))))
      rw [aup_aup]
      exact s_nil ⟨_, _, _, _, _, rfl, rfl, (D.put hxl _).cong fun j => onOrd_add hx j⟩
    refine (s_if (b_eq (u64 hr) (q_ix (qv 8 rfl (q_int ?_)))))
    generalize tmAt ts m = tmx at ex ah hia
    cases tmx with
    | num n => exact q_str (ifB_F (by decide +kernel) (s_nil ⟨_, by rw [ex]; rfl, rfl⟩))
    | name n => exact q_str (ifB_F (by decide +kernel) (s_nil ⟨_, by rw [ex]; rfl, rfl⟩))
    | of wd ks =>
      refine q_str (ifB_T (by decide +kernel) ?_)
      refine s_cons (s_set (i := 8) sc_tk.nd (q_tup (a_cons (q_str (a_cons (q_ix (qv 8 rfl (q_int ?_))))))))
      refine a_cons (q_tuple B.tuple (a_cons (q_v (q_lc sc_tk.nd (blkOk_by (N := nTk) (sc := defScope sTk) (own := [("arm", 9)]) (by decide +kernel)) (i_tup (q_ix (qv 8 rfl (q_int ?_))))))))
      refine lk_mapZ (zs := ks) (fun (k : Nat) => W.int k) (fun k => (T (Lf ls k)).W) sc_tk.nd (Nat.le_trans hia.2 (by decide)) (fun _ _ _ => trivial) (fun z hz D' ws hD s0 H0 C cl fp => ?_) (fun D' hD => ?_)
      · refine q_dget (u64 hr) (qv 5 rfl (q_ix (qv 1 rfl (qv 9 rfl (fIx_ls ((I.hL.sub (Sx _)).new hD) (nW_at (hia.1 z hz)) ?_)))))
        refine ⟨dk, _, _, .inl (aup_new hD aup_same), keyW_nat _, ?_, rfl, rfl⟩
        rw [D.get]
        unfold onOrd
        rw [if_pos (ah _ (List.mem_map_of_mem hz))]
      · have e2 : Tr.W (.of wd (ks.map fun a => T (Lf ls a))) = .tup [.str "of", .str wd, .tup (ks.map fun k => (T (Lf ls k)).W)] := by rw [Tr.W, Tr.Ws_map, List.map_map]; rfl
        refine frz_new hD (a_nil (a_nil (s_nil ⟨v4, ?_, rfl⟩)))
        rw [ex, e2]
        rfl
  · rw [rwW_length, List.take_length] at D
    subst e1 e2
    refine s_cons (s_ret (q_dget (u64 hr) (qv 5 rfl (qv 3 rfl ⟨dk, _, (T lead).W, .inl aup_same, keyW_nat _, ?_, G, Sx _, kk nb⟩))))
    rw [D.get]
    unfold onOrd
    rw [if_pos hlm]
end
end SW
namespace SW
open PySem PySem.Spec L2 AL
/-! ### nodes -/
def mkE (ts : List Tm) (ls : List Nat) (k : Nat) : Tm := mk ls (tmAt ts k)
def fstB (ts : List Tm) (ls : List Nat) (k : Nat) : Bool := (List.range k).all fun j => decide (mkE ts ls j ≠ mkE ts ls k)
def ndM (ts : List Tm) (ls : List Nat) (m j : Nat) : List Nat := (List.range m).filter fun k => fstB ts ls k && decide (Lf ls k = j)
theorem ndM_succ (ts : List Tm) (ls : List Nat) (m j : Nat) : ndM ts ls (m + 1) j = ndM ts ls m j ++ (if fstB ts ls m = true ∧ Lf ls m = j then [m] else []) := by
  unfold ndM
  rw [List.range_succ, List.filter_append]
  congr 1
  by_cases h : fstB ts ls m = true
  · by_cases h2 : Lf ls m = j
    · have e : (fstB ts ls m && decide (Lf ls m = j)) = true := by rw [h, decide_eq_true h2]; rfl
      rw [if_pos ⟨h, h2⟩, List.filter_cons, if_pos e]; rfl
    · have e : ¬ (fstB ts ls m && decide (Lf ls m = j)) = true := by rw [decide_eq_false h2, Bool.and_false]; exact Bool.false_ne_true
      rw [if_neg (fun z => h2 z.2), List.filter_cons, if_neg e]; rfl
  · have e : ¬ (fstB ts ls m && decide (Lf ls m = j)) = true := by rw [Bool.eq_false_iff.mpr h, Bool.false_and]; exact Bool.false_ne_true
    rw [if_neg (fun z => h z.1), List.filter_cons, if_neg e]; rfl
theorem ndM_len (ts : List Tm) (ls : List Nat) (m j : Nat) : (ndM ts ls m j).length ≤ m := by
  unfold ndM
  exact Nat.le_trans (List.length_filter_le _ _) (by rw [List.length_range]; exact Nat.le_refl _)
def ndI (ts : List Tm) (ls : List Nat) : Nat → Option W := fun j => if ndM ts ls ts.length j = [] then none else some (.lst (nW (ndM ts ls ts.length j)))
def seenB (s : List Tm) : List (W × W) := s.map fun t => (t.W, .bl true)
theorem lk_seenB (s : List Tm) (m : Tm) : lk (seenB s) m.W = if m ∈ s then some (.bl true) else none := by
  induction s with
  | nil => rfl
  | cons p s ih =>
    show lk ((p.W, W.bl true) :: seenB s) m.W = _
    rw [lk_cons, ih]
    by_cases e : p = m
    · rw [if_pos (by rw [e])]; simp [e]
    · rw [if_neg (fun z => e (Tm.W_inj z))]; simp [Ne.symm e]
theorem ndM_mem {ts : List Tm} {ls : List Nat} {m j k : Nat} : k ∈ ndM ts ls m j ↔ k < m ∧ fstB ts ls k = true ∧ Lf ls k = j := by
  unfold ndM
  rw [List.mem_filter, List.mem_range]
  simp
theorem fst_iff {ts : List Tm} {ls : List Nat} {k : Nat} : fstB ts ls k = true ↔ ∀ j, j < k → mkE ts ls j ≠ mkE ts ls k := by
  unfold fstB
  rw [List.all_eq_true]
  constructor
  · intro h j hj; exact of_decide_eq_true (h j (List.mem_range.mpr hj))
  · intro h j hj; exact decide_eq_true (h j (List.mem_range.mp hj))
section
variable {P : Program} {w : World} {K : PySem.W.Frag} {mg : Str → Option Value} {base : Heap}
abbrev sNd : Stmt := top 19
theorem sc_nd : FnScope ["terms", "leads", "seen", "told", "k", "own"] ["terms", "leads"] (defScope sNd) := ⟨rfl, rfl, rfl, by decide +kernel, rfl, by decide +kernel, by decide +kernel⟩
def spNd : ASp := fun ws G K _ => ∃ (t l : W) (ts : List Tm) (ls : List Nat), ws = [t, l] ∧ LsA G t (tW ts) ∧ LsA G l (nW ls) ∧ LsOk ts ls ∧ ∀ p tk, G p = none → DI ts.length tk (ndI ts ls) → K (.ref p) (aup G p (.dK tk))
/-- the lists of the table, by their addresses -/
structure NdS (G G' : AH) (sd tl : Addr) (ts : List Tm) (ls : List Nat) (m : Nat) (td : List (Key × W)) (A : Nat → Option Addr) : Prop where
  sub : Sub G G'
  ht : G' tl = some (.dK td)
  D : DI ts.length td (fun j => (A j).map W.ref)
  at' : ∀ j a, A j = some a → G' a = some (.lst (nW (ndM ts ls m j))) ∧ a ≠ sd ∧ a ≠ tl ∧ G a = none ∧ ndM ts ls m j ≠ [] ∧ j < ts.length
  no : ∀ j, A j = none → ndM ts ls m j = []
  inj : ∀ i j a, A i = some a → A j = some a → i = j
theorem frz_all {X : Cx} {es : List Stmt} {ρ : AS} {A0 : AEnds} {G : AH} {tl : Addr} {N : Nat} (f : Nat → List W) (htl : G tl = none) :
    ∀ (r m : Nat) (G' : AH) (td : List (Key × W)) (A : Nat → Option Addr), r + m = N → Sub G G' → G' tl = some (.dK td) → DI N td (fun j => if j < m then (if A j = none then none else some (.lst (f j))) else (A j).map W.ref) →
    (∀ j a, m ≤ j → A j = some a → G' a = some (.lst (f j)) ∧ a ≠ tl ∧ G a = none) → (∀ i j a, A i = some a → A j = some a → i = j) →
    (∀ G2 td2, Sub G G2 → G2 tl = some (.dK td2) → DI N td2 (fun j => if j < N then (if A j = none then none else some (.lst (f j))) else (A j).map W.ref) → SQ X es ρ G2 A0) → SQ X es ρ G' A0
  | 0, m, G', td, A, e, s, h1, D, h2, inj, k => by
    have e : m = N := by omega
    subst e
    exact k G' td s h1 D
  | r + 1, m, G', td, A, e, s, h1, D, h2, inj, k => by
    have hm : m < N := by omega
    cases hA : A m with
    | none =>
      refine frz_all f htl r (m + 1) G' td A (by omega) s h1 (D.cong fun j => ?_) (fun j a hj ha => h2 j a (by omega) ha) inj k
      by_cases c : j < m
      · rw [if_pos c]; exact (if_pos (show j < m + 1 by omega)).symm
      · rw [if_neg c]
        by_cases c2 : j = m
        · subst c2; rw [if_pos (show j < j + 1 by omega), hA]; rfl
        · exact (if_neg (show ¬ j < m + 1 by omega)).symm
    | some a =>
      obtain ⟨g1, g2, g3⟩ := h2 m a (Nat.le_refl _) hA
      have look : lk td (.inl (m : Int)) = some (.ref a) := by rw [D.get, if_neg (by omega), hA]; rfl
      refine s_frzD (.inl (m : Int)) h1 D.nd look g1 ?_
      refine frz_all f htl r (m + 1) _ _ A (by omega) (fun q o e => ?_) aup_same ((D.put hm _).cong fun j => ?_) (fun j a' hj ha' => ?_) inj k
      · rw [aup_ne (ane_none e htl), adel_ne (ane_none e g3)]; exact s q o e
      · by_cases c2 : j = m
        · subst c2; rw [if_pos rfl, if_pos (show j < j + 1 by omega), hA]; rfl
        · rw [if_neg c2]
          by_cases c : j < m
          · rw [if_pos c]; exact (if_pos (show j < m + 1 by omega)).symm
          · rw [if_neg c]; exact (if_neg (show ¬ j < m + 1 by omega)).symm
      · obtain ⟨q1, q2, q3⟩ := h2 j a' (by omega) ha'
        refine ⟨?_, q2, q3⟩
        rw [aup_ne q2, adel_ne fun z => ?_]
        · exact q1
        · subst z
          have := inj j m a' ha' hA
          omega
theorem ok_nd {f : Addr} {fd : FuncData} (F : Fun K "nodes" "nodes" sNd f fd) (B : Bl mg) (CM : Cal P w K mg base "mark" 1 ["term", "leads"] spMark) : FnOk P w K mg base CX0 2 f fd ["terms", "leads"] (low ⟨P, w, K⟩ spNd) := by
  refine fnA_of F sc_nd (fun ws G Kc KE ⟨t, l, ts, ls, e, _⟩ => by rw [e]; rfl) fun cdv A outer s H E ws G Kc KE hr ⟨t, l, ts, ls, e, hT, hL, O, k⟩ => ?_
  subst e
  have many := O.T.many
  refine s_cons (s_set (i := 2) sc_nd.nd (q_dnewN fun sd hsd => ?_))
  refine s_cons (s_set (i := 3) sc_nd.nd (q_dnew fun tl htl => ?_))
  obtain ⟨htl0, hts⟩ := aup_free htl
  have n1 : ((tW ts).length : Int) = (ts.length : Int) := by rw [tW_length]
  refine s_cons (s_for PassesOwn.never rfl (i_range1 rfl B.range (q_len B.len (a_cons (qv 0 rfl (a_nil (fLen_ls ((hT.new hsd).new htl) ?_))))) rfl))
  refine ⟨by omega, by rw [n1]; omega, ?_⟩
  let Pi : Nat → AS → AH → Prop := fun m ρ' G' => ∃ (td : List (Key × W)) (A : Nat → Option Addr) (s : List Tm) (v1 v2 : Option W), ρ' = [some t, some l, some (.ref sd), some (.ref tl), v1, v2] ∧ NdS G G' sd tl ts ls m td A ∧ G' sd = some (.dN (seenB s)) ∧ s.length ≤ m ∧ ∀ u, u ∈ s ↔ ∃ j, j < m ∧ mkE ts ls j = u
  refine ⟨Pi, ⟨[], fun _ => none, [], none, none, rfl, ⟨sub2 hsd htl0, aup_same, (DI.nil _).cong fun _ => rfl, (fun j a h => by cases h), fun j _ => rfl, fun i j a h => by cases h⟩, aup_old hts.symm aup_same, Nat.le_refl _, fun u => ⟨(fun h => by cases h), fun ⟨j, hj, _⟩ => absurd hj (Nat.not_lt_zero _)⟩⟩,
    fun _ _ _ _ _ => trivial, fun m x ρ' G' hx ⟨td, A, s, v1, v2, e1, N, hs, sl, sm⟩ => ?_, fun ρ' G' ⟨td, A, s, v1, v2, e1, N, hs, sl, sm⟩ => ?_⟩
  · obtain ⟨hm, rfl⟩ := rng0_item hx
    have hm : m < ts.length := by rw [tW_length] at hm; simpa using hm
    have tm : ts[m]? = some (tmAt ts m) := at_of (d := Tm.num 0) hm
    have hml : m < ls.length := by rw [O.g.len]; exact hm
    obtain ⟨ar1, ar2⟩ := mk_arms O.T (ls := ls) O.g.len tm
    have hlt : ls.getD m 0 < ts.length := O.g.lt hm
    subst e1
    refine g_name (i := 4) sc_nd.nd ?_
    refine s_cons (s_set (i := 5) sc_nd.nd (q_cal CM hr (a_cons (q_ix (qv 0 rfl (qv 4 rfl (fIx_ls (hT.sub N.sub) (tW_at tm) ?_)))))))
    refine a_cons (qv 1 rfl (a_nil ⟨tmAt ts m, l, ls, rfl, hL.sub N.sub, ar1, ar2, ?_⟩))
    refine s_cons (s_if (b_dinN (u9 hr) (qv 5 rfl (qv 2 rfl ⟨_, hs, keyOk_W _, ?_⟩))))
    rw [lk_seenB]
    have hm2 : ∀ u, (∃ j, j < m + 1 ∧ mkE ts ls j = u) ↔ u ∈ s ∨ u = mkE ts ls m := fun u => by
      rw [sm]
      constructor
      · rintro ⟨j, hj, e⟩
        by_cases c : j < m
        · exact .inl ⟨j, c, e⟩
        · have : j = m := by omega
          subst this; exact .inr e.symm
      · rintro (⟨j, hj, e⟩ | e)
        · exact ⟨j, by omega, e⟩
        · exact ⟨m, by omega, e.symm⟩
    by_cases hin : mk ls (tmAt ts m) ∈ s
    · rw [if_pos hin]
      have nf : ¬ fstB ts ls m = true := fun z => by
        obtain ⟨j, hj, e⟩ := (sm _).mp hin
        exact fst_iff.mp z j hj e
      have same : ∀ j, ndM ts ls (m + 1) j = ndM ts ls m j := fun j => by rw [ndM_succ, if_neg (fun z => nf z.1), List.append_nil]
      refine ifT (s_cons (s_cont ⟨td, A, s, _, _, rfl, ⟨N.sub, N.ht, N.D, fun j a h => ?_, fun j h => ?_, N.inj⟩, hs, by omega, fun u => ?_⟩))
      · rw [same]; exact N.at' j a h
      · rw [same]; exact N.no j h
      · rw [hm2]
        exact ⟨.inl, fun z => z.elim id fun e => by rw [e]; exact hin⟩
    · rw [if_neg hin]
      have isf : fstB ts ls m = true := fst_iff.mpr fun j hj e => hin ((sm _).mpr ⟨j, hj, e⟩)
      have step : ∀ j, ndM ts ls (m + 1) j = ndM ts ls m j ++ (if Lf ls m = j then [m] else []) := fun j => by
        rw [ndM_succ]
        by_cases c : Lf ls m = j
        · rw [if_pos ⟨isf, c⟩, if_pos c]
        · rw [if_neg (fun z => c z.2), if_neg c]
      have ls' : (seenB s).length < sizeLine := by
        unfold seenB; rw [List.length_map]; exact Nat.lt_of_le_of_lt (show s.length ≤ 400 by omega) (by decide)
      refine ifF (s_nil (s_cons (s_asg (q_bl (g_dputN (u9 hr) (qv 2 rfl (qv 5 rfl ⟨_, hs, keyOk_W _, ls', ?_⟩)))))))
      have pkn : pk (seenB s) (mk ls (tmAt ts m)).W (.bl true) = seenB (s ++ [mk ls (tmAt ts m)]) := by
        rw [pk_new _ (by rw [lk_seenB, if_neg hin])]
        unfold seenB; rw [List.map_append]; rfl
      rw [pkn]
      have S1 : Sub G (aup G' sd (.dN (seenB (s ++ [mk ls (tmAt ts m)])))) := fun q o e => by rw [aup_ne (ane_none e hsd)]; exact N.sub q o e
      have T1 : (aup G' sd (.dN (seenB (s ++ [mk ls (tmAt ts m)])))) tl = some (.dK td) := aup_old hts N.ht
      have D1 : (aup G' sd (.dN (seenB (s ++ [mk ls (tmAt ts m)])))) sd = some (.dN (seenB (s ++ [mk ls (tmAt ts m)]))) := aup_same
      have A1 : ∀ j a, A j = some a → (aup G' sd (.dN (seenB (s ++ [mk ls (tmAt ts m)])))) a = some (.lst (nW (ndM ts ls m j))) := fun j a h => by
        obtain ⟨q1, q2, _⟩ := N.at' j a h
        rw [aup_ne q2]; exact q1
      generalize aup G' sd (.dN (seenB (s ++ [mk ls (tmAt ts m)]))) = G1 at S1 T1 D1 A1 ⊢
      refine s_cons (s_if (b_dnin (u64 hr) (q_ix (qv 1 rfl (qv 4 rfl (fIx_ls (hL.sub S1) (nW_at hml) ?_))))))
      refine qv 3 rfl ⟨td, _, .inl T1, keyW_nat _, ?_⟩
      rw [N.D.get]
      have s2 : ∀ u, u ∈ s ++ [mk ls (tmAt ts m)] ↔ ∃ j, j < m + 1 ∧ mkE ts ls j = u := fun u => by
        rw [hm2, List.mem_append]
        simp [mkE]
      have sl2 : (s ++ [mk ls (tmAt ts m)]).length ≤ m + 1 := by rw [List.length_append, List.length_singleton]; omega
      cases hA : A (ls.getD m 0) with
      | none =>
        have ndn := N.no _ hA
        refine ifT (s_cons (s_asg (q_lst (a_nil fun a ha => ?_))))
        refine g_dput (u64 hr) (qv 3 rfl (q_ix (qv 1 rfl (qv 4 rfl (fIx_ls ((hL.sub S1).new ha) (nW_at hml) ?_)))))
        have hat : a ≠ tl := (ane_none T1 ha).symm
        have has : a ≠ sd := (ane_none D1 ha).symm
        have ha0 : G a = none := S1.free ha
        refine ⟨td, _, aup_new ha T1, keyW_nat _, N.D.small (by omega), ?_⟩
        refine s_nil (s_cons (s_expr (q_append (q_dget (u64 hr) (qv 3 rfl (q_ix (qv 1 rfl (qv 4 rfl (fIx_ls (((hL.sub S1).new ha).old fun e => ?_) (nW_at hml) ?_)))))))))
        · have := hL.sub S1; subst e; rw [show G1 tl = some (.lst _) from this] at T1; cases T1
        have Dp := (N.D.put hlt (.ref a))
        refine ⟨_, _, .ref a, .inl aup_same, keyW_nat _, by rw [Dp.get, if_pos rfl], ?_⟩
        refine ⟨a, [], rfl, aup_old hat aup_same, ?_⟩
        refine a_cons (qv 4 rfl (a_nil ⟨[], aup_old hat aup_same, by decide, ?_⟩))
        refine s_nil ⟨_, fun j => if j = ls.getD m 0 then some a else A j, _, _, _, rfl, ⟨fun q o e => ?_, aup_old hat.symm aup_same, Dp.cong fun j => ?_, fun j b h => ?_, fun j h => ?_, fun i j b h h' => ?_⟩, ?_, sl2, s2⟩
        · rw [aup_ne (ane_none e ha0), aup_ne (ane_none e htl0), aup_ne (ane_none e ha0)]; exact S1 q o e
        · show _ = (if j = ls.getD m 0 then some a else A j).map W.ref
          by_cases c : j = ls.getD m 0
          · rw [if_pos c, if_pos c]; rfl
          · rw [if_neg c, if_neg c]
        · by_cases c : j = ls.getD m 0
          · have h : (if j = ls.getD m 0 then some a else A j) = some b := h
            rw [if_pos c] at h; cases h
            have e9 : ndM ts ls (m + 1) j = [m] := by rw [step, c, ndn, if_pos rfl]; rfl
            refine ⟨?_, has, hat, ha0, by rw [e9]; simp, by rw [c]; exact hlt⟩
            rw [aup_same, e9]
            rfl
          · have hj : (if j = ls.getD m 0 then some a else A j) = some b := h
            rw [if_neg c] at hj
            clear h
            obtain ⟨q1, q2, q3, q4, q5, q6⟩ := N.at' j b hj
            have ba : b ≠ a := fun z => by rw [z] at hj; rw [A1 j a hj] at ha; cases ha
            refine ⟨?_, q2, q3, q4, fun z => q5 ?_, q6⟩
            rotate_left
            · rw [step] at z; exact (List.append_eq_nil_iff.mp z).1
            rw [aup_ne ba, aup_ne q3, aup_ne ba, A1 j b hj, step, if_neg (fun z => c z.symm), List.append_nil]
        · have h : (if j = ls.getD m 0 then some a else A j) = none := h
          by_cases c : j = ls.getD m 0
          · rw [if_pos c] at h; cases h
          · rw [if_neg c] at h
            rw [step, N.no j h, if_neg (fun z => c z.symm)]; rfl
        · have h : (if i = ls.getD m 0 then some a else A i) = some b := h
          have h' : (if j = ls.getD m 0 then some a else A j) = some b := h'
          by_cases c : i = ls.getD m 0
          · by_cases c' : j = ls.getD m 0
            · rw [c, c']
            · rw [if_pos c] at h; rw [if_neg c'] at h'; cases h
              rw [A1 j a h'] at ha; cases ha
          · by_cases c' : j = ls.getD m 0
            · rw [if_neg c] at h; rw [if_pos c'] at h'; cases h'
              rw [A1 i a h] at ha; cases ha
            · rw [if_neg c] at h; rw [if_neg c'] at h'
              exact N.inj i j b h h'
        · rw [aup_ne has.symm, aup_ne hts.symm, aup_ne has.symm]; exact D1
      | some a =>
        obtain ⟨q1, has, hat, ha0, _⟩ := N.at' _ a hA
        refine ifF (s_nil (s_cons (s_expr (q_append (q_dget (u64 hr) (qv 3 rfl (q_ix (qv 1 rfl (qv 4 rfl (fIx_ls (hL.sub S1) (nW_at hml) ?_))))))))))
        refine ⟨td, _, .ref a, .inl T1, keyW_nat _, by rw [N.D.get, hA]; rfl, ?_⟩
        refine ⟨a, _, rfl, A1 _ a hA, ?_⟩
        refine a_cons (qv 4 rfl (a_nil ⟨_, A1 _ a hA, ?_, ?_⟩))
        · rw [nW_length]; exact Nat.lt_of_le_of_lt (Nat.le_trans (ndM_len _ _ _ _) (show m ≤ 400 by omega)) (by decide)
        refine s_nil ⟨td, A, _, _, _, rfl, ⟨fun q o e => ?_, aup_old hat.symm T1, N.D, fun j b h => ?_, fun j h => ?_, N.inj⟩, ?_, sl2, s2⟩
        · rw [aup_ne (ane_none e ha0)]; exact S1 q o e
        · obtain ⟨r1, r2, r3, r4, r5, r6⟩ := N.at' j b h
          refine ⟨?_, r2, r3, r4, fun z => r5 ?_, r6⟩
          rotate_left
          · rw [step] at z; exact (List.append_eq_nil_iff.mp z).1
          by_cases c : b = a
          · subst c
            have := N.inj _ _ _ h hA
            subst this
            rw [aup_same, step, if_pos rfl]
            simp [nW]
          · rw [aup_ne c, A1 j b h, step, if_neg fun z => ?_, List.append_nil]
            subst z
            rw [show A (Lf ls m) = some a from hA] at h
            cases h; exact c rfl
        · rw [step, N.no j h, if_neg fun z => ?_]
          · rfl
          · subst z; rw [show A (Lf ls m) = some a from hA] at h; cases h
        · rw [aup_ne has.symm]; exact D1
  · have e0 : (rngW 0 1 ((tW ts).length : Int).toNat).length = ts.length := by rw [rngW_length, tW_length]; simp
    rw [e0] at N sl sm
    subst e1
    refine frz_all (N := ts.length) (fun j => nW (ndM ts ls ts.length j)) htl0 ts.length 0 G' td A rfl N.sub N.ht (N.D.cong fun j => by rw [if_neg (Nat.not_lt_zero _)]) (fun j a _ h => let ⟨q1, _, q3, q4, _⟩ := N.at' j a h; ⟨q1, q3, q4⟩) N.inj fun G2 td2 S2 h2 D2 => ?_
    refine s_cons (s_ret (qv 3 rfl ⟨aup G tl (.dK td2), fun q o e => ?_, k tl td2 htl0 (D2.cong fun j => ?_)⟩))
    · by_cases z : q = tl
      · subst z; rw [aup_same] at e; rw [h2]; exact e
      · rw [aup_ne z] at e; exact S2 q o e
    · unfold ndI
      cases hA : A j with
      | none =>
        rw [N.no j hA, if_pos rfl]
        by_cases c : j < ts.length
        · rw [if_pos c, if_pos rfl]
        · rw [if_neg c]; rfl
      | some a =>
        obtain ⟨_, _, _, _, q5, q6⟩ := N.at' j a hA
        rw [if_pos q6, if_neg (by simp), if_neg q5]
end
end SW
namespace SW
open PySem PySem.Spec L2 AL
theorem divp_small {i j : Int} (h : 0 < j) (h' : j < 2 ^ 64) : CDivP i j := ⟨h, PyProof.noPylong_of_log2 (by
  have : j.natAbs.log2 < 64 := by
    by_cases z : j.natAbs = 0
    · rw [z]; decide
    · exact (Nat.log2_lt z).mpr (by omega)
  omega)⟩
theorem okWs_nW : ∀ ks : List Nat, okWs (nW ks) = true
  | [] => rfl
  | k :: ks => by show (true && okWs (nW ks)) = true; rw [okWs_nW ks]; rfl
theorem dpWs_nW : ∀ ks : List Nat, dpWs (nW ks) = 0
  | [] => rfl
  | k :: ks => by show max 0 (dpWs (nW ks)) = 0; rw [dpWs_nW ks]; rfl
theorem any_nW (ks : List Nat) (k : Nat) : ((nW ks).any fun z => eqW z (.int (k : Nat))) = decide (k ∈ ks) := by
  induction ks with
  | nil => simp [nW]
  | cons j ks ih =>
    show (eqW (.int j) (.int k) || (nW ks).any _) = _
    rw [ih]
    show (decide ((j : Int) = (k : Int)) || _) = _
    by_cases e : j = k
    · subst e; simp
    · have e1 : ¬ (j : Int) = (k : Int) := by omega
      have e2 : ¬ k = j := fun z => e z.symm
      simp [e1, e2]
theorem fIn_nW {G : AH} {y : W} {ks : List Nat} {k : Nat} {neg : Bool} {K : W → AH → Prop} (h : LsA G y (nW ks)) (kk : K (.bl (if neg then !decide (k ∈ ks) else decide (k ∈ ks))) G) : fInD neg (.int (k : Nat)) y G K :=
  fIn_ok h (by rw [okWs_nW, dpWs_nW]; rfl) (by rw [any_nW]; exact kk)
/-- what is reached through all nodes -/
structure Rcd (ts : List Tm) (ls : List Nat) (nd : Nat → List Nat) (lead : Nat) (cls : List Nat) : Prop where
  nd' : cls.Nodup
  hd : lead ∈ cls
  ok : ∀ l ∈ cls, isLd ts ls l
  cl : ∀ l ∈ cls, ∀ k ∈ nd l, ∀ a ∈ arms (tmAt ts k), Lf ls a ∈ cls
section
variable {P : Program} {w : World} {K : PySem.W.Frag} {mg : Str → Option Value} {base : Heap}
abbrev ndN (ts : List Tm) (ls : List Nat) (j : Nat) : List Nat := ndM ts ls ts.length j
theorem nd_ne {ts : List Tm} {ls : List Nat} (cg : ∀ i j, i < ts.length → j < ts.length → mkE ts ls i = mkE ts ls j → Lf ls i = Lf ls j) {k : Nat} (hk : k < ts.length) : ∃ j, j ∈ ndN ts ls (Lf ls k) ∧ mkE ts ls j = mkE ts ls k := by
  have : ∀ n, n ≤ k → (∃ j, j < n ∧ mkE ts ls j = mkE ts ls k ∧ fstB ts ls j = true) ∨ ∀ j, j < n → mkE ts ls j ≠ mkE ts ls k := by
    intro n
    induction n with
    | zero => intro _; exact .inr fun j h => absurd h (Nat.not_lt_zero _)
    | succ n ih =>
      intro h
      rcases ih (by omega) with ⟨j, h1, h2, h3⟩ | h1
      · exact .inl ⟨j, by omega, h2, h3⟩
      · by_cases e : mkE ts ls n = mkE ts ls k
        · exact .inl ⟨n, by omega, e, fst_iff.mpr fun j hj => by rw [e]; exact h1 j hj⟩
        · exact .inr fun j hj => by
            by_cases c : j < n
            · exact h1 j c
            · have : j = n := by omega
              subst this; exact e
  rcases this k (Nat.le_refl _) with ⟨j, h1, h2, h3⟩ | h1
  · exact ⟨j, ndM_mem.mpr ⟨by omega, h3, cg j k (by omega) hk h2⟩, h2⟩
  · exact ⟨k, ndM_mem.mpr ⟨hk, fst_iff.mpr h1, rfl⟩, rfl⟩
theorem ndI_of {ts : List Tm} {ls : List Nat} {l k : Nat} (h : k ∈ ndN ts ls l) : ndI ts ls l = some (.lst (nW (ndN ts ls l))) := by
  unfold ndI
  rw [if_neg fun z => by
    have h : k ∈ ndM ts ls ts.length l := h
    rw [z] at h; cases h]
/-- terms, leads, the table of nodes as they are handed in -/
structure TIn (G : AH) (t l tb : W) (ts : List Tm) (ls : List Nat) : Prop where
  hT : LsA G t (tW ts)
  hL : LsA G l (nW ls)
  hB : ∃ tk, DkA G tb tk ∧ DI ts.length tk (ndI ts ls)
  O : LsOk ts ls
  cg : ∀ i j, i < ts.length → j < ts.length → mkE ts ls i = mkE ts ls j → Lf ls i = Lf ls j
theorem TIn.sub {G G' : AH} {t l tb : W} {ts : List Tm} {ls : List Nat} (h : TIn G t l tb ts ls) (s : Sub G G') : TIn G' t l tb ts ls := ⟨h.hT.sub s, h.hL.sub s, (let ⟨k, h1, h2⟩ := h.hB; ⟨k, h1.sub s, h2⟩), h.O, h.cg⟩
theorem ld_nd {ts : List Tm} {ls : List Nat} (cg : ∀ i j, i < ts.length → j < ts.length → mkE ts ls i = mkE ts ls j → Lf ls i = Lf ls j) {l : Nat} (h : isLd ts ls l) : ∃ k, k ∈ ndN ts ls l := by
  obtain ⟨j, h1, _⟩ := nd_ne cg h.1
  rw [h.2] at h1
  exact ⟨j, h1⟩
abbrev sRe : Stmt := top 21
theorem sc_re : FnScope ["terms", "leads", "table", "lead", "found", "at", "k", "arm"] ["terms", "leads", "table", "lead"] (defScope sRe) := ⟨rfl, rfl, rfl, by decide +kernel, rfl, by decide +kernel, by decide +kernel⟩
def spRe : ASp := fun ws G K _ => ∃ (t l tb : W) (ts : List Tm) (ls : List Nat) (lead : Nat), ws = [t, l, tb, .int lead] ∧ TIn G t l tb ts ls ∧ isLd ts ls lead ∧ ∀ cls, Rcd ts ls (ndN ts ls) lead cls → K (.lst (nW cls)) G
theorem ok_re {f : Addr} {fd : FuncData} (F : Fun K "reached" "reached" sRe f fd) (B : Bl mg) (CA : Cal P w K mg base "arms_of" 1 ["term"] spArms) : FnOk P w K mg base CX0 2 f fd ["terms", "leads", "table", "lead"] (low ⟨P, w, K⟩ spRe) := by
  refine fnA_of F sc_re (fun ws G Kc KE ⟨t, l, tb, ts, ls, lead, e, _⟩ => by rw [e]; rfl) fun cdv A outer s H E ws G Kc KE hr ⟨t, l, tb, ts, ls, lead, e, I, hl, kk⟩ => ?_
  subst e
  have many := I.O.T.many
  refine s_cons (s_set (i := 4) sc_re.nd (q_lst (a_cons (qv 3 rfl (a_nil fun a ha => ?_)))))
  refine s_cons (s_set (i := 5) sc_re.nd (q_int ?_))
  have Sx : ∀ o, Sub G (aup G a o) := fun _ => Sub.new ha
  let C : List Nat → Prop := fun c => c.Nodup ∧ lead ∈ c ∧ ∀ l ∈ c, isLd ts ls l
  have fl : ∀ c, C c → c.length ≤ ts.length := fun c h => nodup_below _ _ h.1 fun x hx => (h.2.2 x hx).1
  have addC : ∀ c x, C c → isLd ts ls x → x ∉ c → C (c ++ [x]) := fun c x h hx hn => ⟨List.nodup_append.mpr ⟨h.1, by simp, fun a ha b hb e => by simp at hb; subst hb; subst e; exact hn ha⟩, List.mem_append_left _ h.2.1, fun y hy => by
    rcases List.mem_append.mp hy with hy | hy
    · exact h.2.2 y hy
    · simp at hy; subst hy; exact hx⟩
  let Pw : Nat → AS → AH → Prop := fun m ρ' G' => ∃ (c : List Nat) (i : Nat) (v v' : Option W), ρ' = [some t, some l, some tb, some (.int lead), some (.ref a), some (.int i), v, v'] ∧ G' = aup G a (.lst (nW c)) ∧ C c ∧ i ≤ c.length ∧ (∀ x ∈ c.take i, ∀ k ∈ ndN ts ls x, ∀ b ∈ arms (tmAt ts k), Lf ls b ∈ c) ∧ m = ts.length + 1 - i
  refine s_cons (s_whileN PassesOwn.never Pw (ts.length + 1) ⟨[lead], 0, none, none, rfl, rfl, ⟨by simp, by simp, fun x hx => by simp at hx; subst hx; exact hl⟩, Nat.zero_le _, (fun x hx => by simp at hx), rfl⟩ ?_)
  rintro m ρ0 G0 ⟨c, i, v, v', e1, e2, hC, hi, cl, em⟩
  subst e1 e2
  refine b_lt (qv 5 rfl (q_len B.len (a_cons (qv 4 rfl (a_nil ⟨_, aup_same, ?_⟩)))))
  rw [nW_length]
  refine ifB_dec (fun hlt' => ?_) (fun hge => ?_)
  · have hi' : i < c.length := by omega
    have hx : c[i]? = some (c.getD i 0) := at_of hi'
    generalize c.getD i 0 = x at hx
    have hxm : x ∈ c := List.mem_of_getElem? hx
    obtain ⟨k0, hk0⟩ := ld_nd I.cg (hC.2.2 x hxm)
    obtain ⟨tk, hB, DB⟩ := I.hB
    have xat : atI (nW c) (i : Int) = some (.int x) := atI_of (nW_get hx)
    refine s_cons (s_for PassesOwn.never rfl (i_list (q_dget (u64 hr) (qv 2 rfl (q_ix (qv 4 rfl (qv 5 rfl (fIx_ls (show LsA _ _ _ from aup_same) xat ?_))))))))
    refine ⟨tk, _, .lst (nW (ndN ts ls x)), hB.sub (Sx _), keyW_nat _, by rw [DB.get]; exact ndI_of hk0, nW (ndN ts ls x), rfl, ?_⟩
    let Q : List Nat → List Nat → Prop := fun ks c' => ∀ k ∈ ks, ∀ b ∈ arms (tmAt ts k), Lf ls b ∈ c'
    have Qmono : ∀ ks c' c'', Q ks c' → (∀ y ∈ c', y ∈ c'') → Q ks c'' := fun ks c' c'' h1 h2 k hk b hb => h2 _ (h1 k hk b hb)
    refine ⟨fun j ρ' G' => ∃ (more : List Nat) (v v' : Option W), ρ' = [some t, some l, some tb, some (.int lead), some (.ref a), some (.int i), v, v'] ∧ G' = aup G a (.lst (nW (c ++ more))) ∧ C (c ++ more) ∧ Q ((ndN ts ls x).take j) (c ++ more), ⟨[], v, v', rfl, by rw [List.append_nil], by rw [List.append_nil]; exact hC, fun k hk => by simp at hk⟩,
      fun _ _ _ _ _ => rfl, fun j z ρ' G' hz ⟨more, v, v', e1, e2, hC1, hQ⟩ => ?_, fun ρ' G' ⟨more, v, v', e1, e2, hC1, hQ⟩ => ?_⟩
    · obtain ⟨k, hk, rfl⟩ := nW_item hz
      subst e1 e2
      have hkn : k < ts.length := (ndM_mem.mp (List.mem_of_getElem? hk)).1
      have tm : ts[k]? = some (tmAt ts k) := at_of (d := Tm.num 0) hkn
      have hia : ∀ b ∈ arms (tmAt ts k), b < ls.length := (mk_arms I.O.T (ls := ls) I.O.g.len tm).1
      have tkk : (ndN ts ls x).take (j + 1) = (ndN ts ls x).take j ++ [k] := by rw [List.take_succ, hk]; rfl
      refine g_name (i := 6) sc_re.nd ?_
      refine s_cons (s_for PassesOwn.never rfl (i_tup (q_cal CA hr (a_cons (q_ix (qv 0 rfl (qv 6 rfl (fIx_ls (I.hT.sub (Sx _)) (tW_at tm) ?_))))))))
      refine a_nil ⟨tmAt ts k, rfl, ?_⟩
      refine ⟨fun r ρ' G' => ∃ (more : List Nat) (v' : Option W), ρ' = [some t, some l, some tb, some (.int lead), some (.ref a), some (.int i), some (.int k), v'] ∧ G' = aup G a (.lst (nW (c ++ more))) ∧ C (c ++ more) ∧ Q ((ndN ts ls x).take j) (c ++ more) ∧ (∀ b ∈ (arms (tmAt ts k)).take r, Lf ls b ∈ c ++ more), ⟨more, v', rfl, rfl, hC1, hQ, fun b hb => by simp at hb⟩,
        fun _ _ _ _ _ => trivial, fun r z ρ' G' hz ⟨more, v', e1, e2, hC1, hQ, hA⟩ => ?_, fun ρ' G' ⟨more, v', e1, e2, hC1, hQ, hA⟩ => ?_⟩
      · obtain ⟨b, hb, rfl⟩ := nW_item hz
        subst e1 e2
        have hbm := List.mem_of_getElem? hb
        have hbl := hia b hbm
        have tkb : (arms (tmAt ts k)).take (r + 1) = (arms (tmAt ts k)).take r ++ [b] := by rw [List.take_succ, hb]; rfl
        refine g_name (i := 7) sc_re.nd ?_
        refine s_cons (s_if (b_nin (u65 hr) (q_ix (qv 1 rfl (qv 7 rfl (fIx_ls (I.hL.sub (Sx _)) (nW_at hbl) ?_))))))
        refine qv 4 rfl (fIn_nW (ks := c ++ more) (show LsA _ _ _ from aup_same) ?_)
        refine ifB_ndec (fun hn => ?_) (fun hin => ?_)
        · refine s_cons (s_expr (q_append (qv 4 rfl ⟨a, _, rfl, aup_same, ?_⟩)))
          refine a_cons (q_ix (qv 1 rfl (qv 7 rfl (fIx_ls (I.hL.sub (Sx _)) (nW_at hbl) ?_))))
          refine a_nil ⟨_, aup_same, ?_, ?_⟩
          · rw [nW_length]; exact Nat.lt_of_le_of_lt (Nat.le_trans (fl _ hC1) many) (by decide)
          rw [aup_aup]
          have en : nW (c ++ more) ++ [W.int ((ls.getD b 0 : Nat) : Int)] = nW (c ++ (more ++ [ls.getD b 0])) := by simp [nW]
          rw [en]
          have mono : ∀ y ∈ c ++ more, y ∈ c ++ (more ++ [ls.getD b 0]) := fun y hy => by rw [← List.append_assoc]; exact List.mem_append_left _ hy
          refine s_nil (s_nil ⟨more ++ [ls.getD b 0], _, rfl, rfl, ?_, Qmono _ _ _ hQ mono, fun y hy => ?_⟩)
          · rw [← List.append_assoc]; exact addC _ _ hC1 (ld_of I.O (by rw [← I.O.g.len]; exact hbl)) hn
          · rw [tkb] at hy
            rcases List.mem_append.mp hy with hy | hy
            · exact mono _ (hA y hy)
            · simp at hy; subst hy; simp
        · refine s_nil (s_nil ⟨more, _, rfl, rfl, hC1, hQ, fun y hy => ?_⟩)
          rw [tkb] at hy
          rcases List.mem_append.mp hy with hy | hy
          · exact hA y hy
          · simp at hy; subst hy; exact hin
      · rw [nW_length, List.take_length] at hA
        subst e1 e2
        refine s_nil ⟨more, _, _, rfl, rfl, hC1, fun k' hk' => ?_⟩
        rw [tkk] at hk'
        rcases List.mem_append.mp hk' with hk' | hk'
        · exact hQ k' hk'
        · simp at hk'; subst hk'; exact hA
    · rw [nW_length, List.take_length] at hQ
      subst e1 e2
      refine s_cons (s_addI (i := 5) (z := i) sc_re.nd rfl (q_int ?_))
      have l1 := fl _ hC1
      rw [List.length_append] at l1
      refine s_nil ⟨ts.length + 1 - (i + 1), by omega, c ++ more, i + 1, _, _, rfl, rfl, hC1, by rw [List.length_append]; omega, fun y hy => ?_, rfl⟩
      have tk2 : (c ++ more).take (i + 1) = c.take i ++ [x] := by
        rw [List.take_append_of_le_length (by omega), List.take_succ, hx]; rfl
      rw [tk2] at hy
      rcases List.mem_append.mp hy with hy | hy
      · exact fun k hk b hb => List.mem_append_left _ (cl y hy k hk b hb)
      · simp at hy; subst hy; exact hQ
  · have hi' : i = c.length := by omega
    subst hi'
    rw [List.take_length] at cl
    refine s_cons (s_retV (qv 4 rfl ⟨_, aup_same, G, fun q v e => ?_, kk c ⟨hC.1, hC.2.1, hC.2.2, cl⟩⟩))
    rw [adel_ne (ane_none e ha), aup_ne (ane_none e ha)]; exact e
/-! ### ways -/
def manyW (nd : Nat → List Nat) (cls : List Nat) : Nat := (cls.map fun l => (nd l).length).foldl (· * ·) 1
/-- the picks of a way -/
def pkW (nd : Nat → List Nat) : List Nat → Nat × (Nat → Option Nat) → Nat × (Nat → Option Nat)
  | [], st => st
  | l :: cls, st => pkW nd cls (st.1 / (nd l).length, updB st.2 l ((nd l).getD (st.1 % (nd l).length) 0))
abbrev sWo : Stmt := top 22
theorem sc_wo : FnScope ["table", "classes", "many", "lead"] ["table", "classes"] (defScope sWo) := ⟨rfl, rfl, rfl, by decide +kernel, rfl, by decide +kernel, by decide +kernel⟩
def spWo : ASp := fun ws G K _ => ∃ (tb : W) (ts : List Tm) (ls : List Nat) (tk : List (Key × W)) (cls : List Nat), ws = [tb, .lst (nW cls)] ∧ DkA G tb tk ∧ DI ts.length tk (ndI ts ls) ∧ ts.length ≤ 400 ∧ (∀ l ∈ cls, ∃ k, k ∈ ndN ts ls l) ∧ K (.int (manyW (ndN ts ls) cls : Nat)) G
theorem ok_wo {f : Addr} {fd : FuncData} (F : Fun K "ways_of" "ways_of" sWo f fd) (B : Bl mg) : FnOk P w K mg base CX0 1 f fd ["table", "classes"] (low ⟨P, w, K⟩ spWo) := by
  refine fnA_of F sc_wo (fun ws G Kc KE ⟨tb, ts, ls, tk, cls, e, _⟩ => by rw [e]; rfl) fun cdv A outer s H E ws G Kc KE hr ⟨tb, ts, ls, tk, cls, e, hB, DB, many, hne, kk⟩ => ?_
  subst e
  refine s_cons (s_set (i := 2) sc_wo.nd (q_int ?_))
  refine s_cons (s_for PassesOwn.never rfl (i_list (qv 1 rfl ⟨nW cls, rfl, ?_⟩)))
  refine ⟨fun i ρ' G' => ∃ v, ρ' = [some tb, some (.lst (nW cls)), some (.int (manyW (ndN ts ls) (cls.take i) : Nat)), v] ∧ G' = G, ⟨none, rfl, rfl⟩, fun _ _ _ _ _ => rfl, fun i z ρ' G' hz ⟨v, e1, e2⟩ => ?_, fun ρ' G' ⟨v, e1, e2⟩ => ?_⟩
  · obtain ⟨l, hl, rfl⟩ := nW_item hz
    subst e1 e2
    obtain ⟨k, hk⟩ := hne l (List.mem_of_getElem? hl)
    have hk : k ∈ ndM ts ls ts.length l := hk
    refine g_name (i := 3) sc_wo.nd ?_
    refine s_cons (s_set (i := 2) sc_wo.nd (q_mul (qv 2 rfl (q_len B.len (a_cons (q_dget (u64 hr) (qv 0 rfl (qv 3 rfl ⟨tk, _, .lst (nW (ndN ts ls l)), hB, keyW_nat _, by rw [DB.get]; exact ndI_of hk, a_nil (fLen_ls (xs := nW (ndN ts ls l)) rfl ?_)⟩))))))))
    have n1 : ((nW (ndN ts ls l)).length : Int) = ((ndN ts ls l).length : Int) := by rw [nW_length]
    have n2 : (ndN ts ls l).length ≤ ts.length := ndM_len ts ls ts.length l
    show fMul (.int _) (.int ((nW (ndN ts ls l)).length : Int)) _ _
    rw [n1]
    refine ⟨CMul.ok (.inr ⟨by omega, by omega⟩), s_nil ⟨some (.int (l : Nat)), ?_, rfl⟩⟩
    have : manyW (ndN ts ls) (cls.take (i + 1)) = manyW (ndN ts ls) (cls.take i) * (ndN ts ls l).length := by
      unfold manyW
      rw [List.take_succ, hl, Option.toList_some, List.map_append, List.foldl_append]
      rfl
    rw [this, Int.natCast_mul]
    rfl
  · rw [nW_length, List.take_length] at e1
    subst e1 e2
    exact s_cons (s_ret (qv 2 rfl ⟨_, Sub.refl, kk⟩))
abbrev sPk : Stmt := top 23
theorem sc_pk : FnScope ["table", "classes", "way", "picks", "lead", "at"] ["table", "classes", "way"] (defScope sPk) := ⟨rfl, rfl, rfl, by decide +kernel, rfl, by decide +kernel, by decide +kernel⟩
def spPk : ASp := fun ws G K _ => ∃ (tb : W) (ts : List Tm) (ls : List Nat) (tk : List (Key × W)) (cls : List Nat) (way : Nat), ws = [tb, .lst (nW cls), .int way] ∧ DkA G tb tk ∧ DI ts.length tk (ndI ts ls) ∧ ts.length ≤ 400 ∧ (∀ l ∈ cls, l < ts.length ∧ ∃ k, k ∈ ndN ts ls l) ∧
  ∀ a pk, G a = none → DI ts.length pk (bI (pkW (ndN ts ls) cls (way, fun _ => none)).2) → K (.ref a) (aup G a (.dK pk))
theorem pkW_app (nd : Nat → List Nat) (l : Nat) : ∀ (cls : List Nat) (st : Nat × (Nat → Option Nat)), pkW nd (cls ++ [l]) st = ((pkW nd cls st).1 / (nd l).length, updB (pkW nd cls st).2 l ((nd l).getD ((pkW nd cls st).1 % (nd l).length) 0))
  | [], st => rfl
  | x :: cls, st => pkW_app nd l cls _
theorem ok_pk {f : Addr} {fd : FuncData} (F : Fun K "picks_by" "picks_by" sPk f fd) (B : Bl mg) : FnOk P w K mg base CX0 1 f fd ["table", "classes", "way"] (low ⟨P, w, K⟩ spPk) := by
  refine fnA_of F sc_pk (fun ws G Kc KE ⟨tb, ts, ls, tk, cls, way, e, _⟩ => by rw [e]; rfl) fun cdv A outer s H E ws G Kc KE hr ⟨tb, ts, ls, tk, cls, way, e, hB, DB, many, hne, kk⟩ => ?_
  subst e
  refine s_cons (s_set (i := 3) sc_pk.nd (q_dnew fun a ha => ?_))
  have Sx : ∀ o, Sub G (aup G a o) := fun _ => Sub.new ha
  refine s_cons (s_for PassesOwn.never rfl (i_list (qv 1 rfl ⟨nW cls, rfl, ?_⟩)))
  refine ⟨fun i ρ' G' => ∃ (pk : List (Key × W)) (v v' : Option W), ρ' = [some tb, some (.lst (nW cls)), some (.int ((pkW (ndN ts ls) (cls.take i) (way, fun _ => none)).1 : Nat)), some (.ref a), v, v'] ∧ G' = aup G a (.dK pk) ∧ DI ts.length pk (bI (pkW (ndN ts ls) (cls.take i) (way, fun _ => none)).2), ⟨[], none, none, rfl, rfl, (DI.nil _).cong fun _ => rfl⟩,
    fun _ _ _ _ _ => rfl, fun i z ρ' G' hz ⟨pk, v, v', e1, e2, D⟩ => ?_, fun ρ' G' ⟨pk, v, v', e1, e2, D⟩ => ?_⟩
  · obtain ⟨l, hl, rfl⟩ := nW_item hz
    subst e1 e2
    obtain ⟨hln, k, hk⟩ := hne l (List.mem_of_getElem? hl)
    have n2 : (ndN ts ls l).length ≤ ts.length := ndM_len ts ls ts.length l
    have n3 : 0 < (ndN ts ls l).length := List.length_pos_of_mem hk
    have n1 : ((nW (ndN ts ls l)).length : Int) = ((ndN ts ls l).length : Int) := by rw [nW_length]
    have st : pkW (ndN ts ls) (cls.take (i + 1)) (way, fun _ => none) = ((pkW (ndN ts ls) (cls.take i) (way, fun _ => none)).1 / (ndN ts ls l).length, updB (pkW (ndN ts ls) (cls.take i) (way, fun _ => none)).2 l ((ndN ts ls l).getD ((pkW (ndN ts ls) (cls.take i) (way, fun _ => none)).1 % (ndN ts ls l).length) 0)) := by rw [List.take_succ, hl, Option.toList_some]; exact pkW_app _ _ _ _
    generalize pkW (ndN ts ls) (cls.take i) (way, fun _ => none) = s0 at st D ⊢
    refine g_name (i := 4) sc_pk.nd ?_
    have tbl : lk tk (.inl ((l : Nat) : Int)) = some (.lst (nW (ndN ts ls l))) := by rw [DB.get]; exact ndI_of hk
    refine s_cons (s_asg (q_divmod B.divmod (a_cons (qv 2 rfl (a_cons (q_len B.len (a_cons (q_dget (u64 hr) (qv 0 rfl (qv 4 rfl ⟨tk, _, _, hB.sub (Sx _), keyW_nat _, tbl, a_nil (fLen_ls (xs := nW (ndN ts ls l)) rfl (a_nil ?_))⟩))))))))))
    show fDivmod [.int _, .int ((nW (ndN ts ls l)).length : Int)] _ _
    rw [n1]
    refine ⟨divp_small (by omega) (by omega), ?_⟩
    refine g_tup rfl (gs_cons (g_name (i := 2) sc_pk.nd (gs_cons (g_name (i := 5) sc_pk.nd (gs_nil ?_)))))
    have dm1 : ((s0.1 : Nat) : Int) / ((ndN ts ls l).length : Int) = ((s0.1 / (ndN ts ls l).length : Nat) : Int) := (Int.natCast_ediv _ _).symm
    have dm2 : ((s0.1 : Nat) : Int) % ((ndN ts ls l).length : Int) = ((s0.1 % (ndN ts ls l).length : Nat) : Int) := (Int.natCast_emod _ _).symm
    rw [dm1, dm2]
    refine s_cons (s_asg (q_ix (q_dget (u64 hr) (qv 0 rfl (qv 4 rfl ⟨tk, _, _, hB.sub (Sx _), keyW_nat _, tbl, qv 5 rfl ?_⟩)))))
    refine fIx_ls (xs := nW (ndN ts ls l)) rfl (nW_at (Nat.mod_lt _ n3)) ?_
    refine g_dput (u64 hr) (qv 3 rfl (qv 4 rfl ⟨pk, _, aup_same, keyW_nat _, D.small (by omega), ?_⟩))
    rw [aup_aup]
    refine s_nil ⟨_, some (.int (l : Nat)), some (.int ((s0.1 % (ndN ts ls l).length : Nat) : Int)), ?_, rfl, ?_⟩
    · rw [st]; rfl
    · rw [st]; exact (D.put hln _).cong fun j => bI_upd j
  · rw [nW_length, List.take_length] at D
    subst e1 e2
    exact s_cons (s_ret (qv 3 rfl ⟨_, Sub.refl, kk a pk ha D⟩))
end
end SW
namespace SW
open PySem PySem.Spec L2 AL
/-! ### ways, plain -/
theorem pkW_not (nd : Nat → List Nat) (l : Nat) : ∀ (cls : List Nat) (st : Nat × (Nat → Option Nat)), l ∉ cls → (pkW nd cls st).2 l = st.2 l
  | [], st, _ => rfl
  | x :: cls, st, h => by
    have h1 : l ≠ x := fun e => h (by rw [e]; exact List.mem_cons_self)
    show (pkW nd cls _).2 l = _
    rw [pkW_not nd l cls _ (fun m => h (List.mem_cons_of_mem _ m))]
    exact updB_ne h1
theorem pkW_mem {nd : Nat → List Nat} : ∀ (cls : List Nat) (st : Nat × (Nat → Option Nat)), cls.Nodup → (∀ l ∈ cls, ∃ k, k ∈ nd l) → ∀ l ∈ cls, ∃ k, (pkW nd cls st).2 l = some k ∧ k ∈ nd l
  | [], _, _, _, l, h => by cases h
  | x :: cls, st, hn, hne, l, hl => by
    have hn := List.nodup_cons.mp hn
    by_cases e : l ∈ cls
    · exact pkW_mem cls _ hn.2 (fun l h => hne l (List.mem_cons_of_mem _ h)) l e
    · have : l = x := by
        rcases List.mem_cons.mp hl with h | h
        · exact h
        · exact absurd h e
      subst this
      obtain ⟨k, hk⟩ := hne l List.mem_cons_self
      have n3 : 0 < (nd l).length := List.length_pos_of_mem hk
      refine ⟨(nd l).getD (st.1 % (nd l).length) 0, ?_, ?_⟩
      · show (pkW nd cls _).2 l = _
        rw [pkW_not nd l cls _ e]
        exact updB_same
      · exact List.mem_of_getElem? (at_of (Nat.mod_lt _ n3))
theorem many_mul (xs : List Nat) : ∀ a, xs.foldl (· * ·) a = a * xs.foldl (· * ·) 1 := by
  induction xs with
  | nil => intro a; simp
  | cons x xs ih =>
    intro a
    show xs.foldl (· * ·) (a * x) = a * xs.foldl (· * ·) (1 * x)
    rw [ih (a * x), ih (1 * x), Nat.one_mul, Nat.mul_assoc]
theorem manyW_cons (nd : Nat → List Nat) (l : Nat) (cls : List Nat) : manyW nd (l :: cls) = (nd l).length * manyW nd cls := by
  unfold manyW
  rw [List.map_cons, List.foldl_cons, many_mul, Nat.one_mul]
/-- each choice of nodes is some way -/
theorem pkW_all {nd : Nat → List Nat} (q : Nat → Nat) : ∀ (cls : List Nat), cls.Nodup → (∀ l ∈ cls, q l ∈ nd l) → ∃ w, w < manyW nd cls ∧ ∀ b, ∀ l ∈ cls, (pkW nd cls (w, b)).2 l = some (q l)
  | [], _, _ => ⟨0, Nat.lt_succ_self 0, fun _ l h => by cases h⟩
  | x :: cls, hn, hq => by
    have hn := List.nodup_cons.mp hn
    obtain ⟨w, hw, ih⟩ := pkW_all q cls hn.2 fun l h => hq l (List.mem_cons_of_mem _ h)
    obtain ⟨d, hd, e⟩ := List.getElem_of_mem (hq x List.mem_cons_self)
    refine ⟨d + (nd x).length * w, ?_, fun b l hl => ?_⟩
    · rw [manyW_cons]
      have : (nd x).length * (w + 1) ≤ (nd x).length * manyW nd cls := Nat.mul_le_mul (Nat.le_refl _) hw
      rw [Nat.mul_add] at this
      omega
    · have e1 : (d + (nd x).length * w) % (nd x).length = d := by rw [Nat.add_mul_mod_self_left]; exact Nat.mod_eq_of_lt hd
      have e2 : (d + (nd x).length * w) / (nd x).length = w := by rw [Nat.add_mul_div_left _ _ (by omega), Nat.div_eq_of_lt hd, Nat.zero_add]
      show (pkW nd cls ((d + (nd x).length * w) / (nd x).length, updB b x ((nd x).getD ((d + (nd x).length * w) % (nd x).length) 0))).2 l = _
      rw [e1, e2]
      by_cases c : l ∈ cls
      · exact ih _ l c
      · have : l = x := by
          rcases List.mem_cons.mp hl with h | h
          · exact h
          · exact absurd h c
        subst this
        rw [pkW_not nd l cls _ c]
        show updB b l _ l = _
        rw [updB_same]
        simp [List.getD, hd, e]
abbrev pkOf (ts : List Tm) (ls : List Nat) (cls : List Nat) (w : Nat) : Nat → Option Nat := (pkW (ndN ts ls) cls (w, fun _ => none)).2
def cSum (ts : List Tm) (c : Tm → Nat) (p : Nat → Option Nat) (ord : List Nat) : Nat := (ord.map fun l => c (tmAt ts ((p l).getD 0))).sum
/-- the best of the first m ways -/
def ShI (ts : List Tm) (ls : List Nat) (c : Tm → Nat) (lead : Nat) (cls : List Nat) (m : Nat) : Option (Nat × Nat × List Nat) → Prop
  | none => ∀ w, w < m → RowsP (nxF ts ls (pkOf ts ls cls w)) lead none
  | some (v, w0, ord0) => w0 < m ∧ Ord (nxF ts ls (pkOf ts ls cls w0)) lead ord0 ∧ v = cSum ts c (pkOf ts ls cls w0) ord0 ∧ ∀ w, w < m → RowsP (nxF ts ls (pkOf ts ls cls w)) lead none ∨ ∃ ord, Ord (nxF ts ls (pkOf ts ls cls w)) lead ord ∧ v ≤ cSum ts c (pkOf ts ls cls w) ord
def oS (ts : List Tm) (ls : List Nat) (cls : List Nat) : Option (Nat × Nat × List Nat) → W
  | none => .non
  | some (v, w0, ord0) => .tup [.int (v : Nat), .lst (rwW (pkOf ts ls cls w0) ord0)]
theorem way_pk {ts : List Tm} {ls : List Nat} (cg : ∀ i j, i < ts.length → j < ts.length → mkE ts ls i = mkE ts ls j → Lf ls i = Lf ls j) {lead : Nat} {cls : List Nat} (R : Rcd ts ls (ndN ts ls) lead cls) (w : Nat) : PkOk ts ls (pkOf ts ls cls w) (· ∈ cls) :=
  ⟨fun l hl => ⟨(R.ok l hl).1, by
    obtain ⟨k, h1, h2⟩ := pkW_mem cls (w, fun _ => none) R.nd' (fun l h => ld_nd cg (R.ok l h)) l hl
    exact ⟨k, h1, (ndM_mem.mp h2).1, fun a ha => R.cl l hl k h2 a ha⟩⟩⟩
theorem sum_cast (xs : List Nat) : (xs.map fun (n : Nat) => (n : Int)).sum = ((xs.sum : Nat) : Int) := by
  induction xs with
  | nil => rfl
  | cons x xs ih => rw [List.map_cons, List.sum_cons, List.sum_cons, ih]; omega
section
variable {P : Program} {w : World} {K : PySem.W.Frag} {mg : Str → Option Value} {base : Heap}
abbrev sSh : Stmt := top 24
abbrev nSh : List Str := ["terms", "leads", "costs", "k", "table", "classes", "many", "best", "way", "rows", "price", "lead", "at"]
theorem sc_sh : FnScope nSh ["terms", "leads", "costs", "k"] (defScope sSh) := ⟨rfl, rfl, rfl, by decide +kernel, rfl, by decide +kernel, by decide +kernel⟩
def spSh (C : Addr) : ASp := fun ws G K KE => ∃ (t l d : W) (ts : List Tm) (ls : List Nat) (kws : List (Key × W)) (k : Nat), ws = [t, l, d, .int k] ∧ LsA G t (tW ts) ∧ LsA G l (nW ls) ∧ DkA G d kws ∧ CsOk kws ∧ LsOk ts ls ∧ (∀ i j, i < ts.length → j < ts.length → mkE ts ls i = mkE ts ls j → Lf ls i = Lf ls j) ∧ k < ts.length ∧
  (∀ cls, Rcd ts ls (ndN ts ls) (Lf ls k) cls → 200 < manyW (ndN ts ls) cls → KE (.ref C) none G) ∧
  (∀ cls o, Rcd ts ls (ndN ts ls) (Lf ls k) cls → ¬ 200 < manyW (ndN ts ls) cls → ShI ts ls (cst kws) (Lf ls k) cls (manyW (ndN ts ls) cls) o → K (oS ts ls cls o) G)
theorem ok_sh {C : Addr} {f : Addr} {fd : FuncData} (F : Fun K "sharing" "sharing" sSh f fd) (B : Bl mg) (TW : ExcT K mg "TooWide" C) (CN : Cal P w K mg base "nodes" 2 ["terms", "leads"] spNd) (CR : Cal P w K mg base "reached" 2 ["terms", "leads", "table", "lead"] spRe) (CW : Cal P w K mg base "ways_of" 1 ["table", "classes"] spWo)
    (CP : Cal P w K mg base "picks_by" 1 ["table", "classes", "way"] spPk) (CB : Cal P w K mg base "rows_by" 3 ["terms", "leads", "picks", "lead"] spRb) (CC : Cal P w K mg base "cost_of" 1 ["term", "costs"] spCost) : FnOk P w K mg base (L2.CX P w) 4 f fd ["terms", "leads", "costs", "k"] (low ⟨P, w, K⟩ (spSh C)) := by
  refine fnA_ofX F sc_sh (fun ws G Kc KE ⟨t, l, d, ts, ls, kws, k, e, _⟩ => by rw [e]; rfl) fun cdv A outer s H E ws G Kc KE hr ⟨t, l, d, ts, ls, kws, k, e, hT, hL, hD, hC, O, cg, hk, kb, kk⟩ th => ?_
  subst e
  have many := O.T.many
  have hr2 : Room 2 _ := hr.mono (by decide)
  have hr1 : Room 1 _ := hr.mono (by decide)
  have hkl : k < ls.length := by rw [O.g.len]; exact hk
  have hld : isLd ts ls (ls.getD k 0) := ld_of O hk
  refine s_cons (s_set (i := 4) sc_sh.nd (q_cal CN hr2 (a_cons (qv 0 rfl (a_cons (qv 1 rfl (a_nil ⟨t, l, ts, ls, rfl, hT, hL, O, fun tb tk htb DB => ?_⟩)))))))
  have S0 : Sub G (aup G tb (.dK tk)) := Sub.new htb
  have TI : TIn (aup G tb (.dK tk)) t l (.ref tb) ts ls := ⟨hT.sub S0, hL.sub S0, ⟨tk, .inl aup_same, DB⟩, O, cg⟩
  have hD0 := hD.sub S0
  generalize aup G tb (.dK tk) = G0 at S0 TI hD0 ⊢
  refine s_cons (s_set (i := 5) sc_sh.nd (q_cal CR hr2 (a_cons (qv 0 rfl (a_cons (qv 1 rfl (a_cons (qv 4 rfl (a_cons (q_ix (qv 1 rfl (qv 3 rfl (fIx_ls TI.hL (nW_at hkl) ?_)))))))))))) )
  refine a_nil ⟨t, l, .ref tb, ts, ls, _, rfl, TI, hld, fun cls R => ?_⟩
  obtain ⟨tk', hB, DB'⟩ := TI.hB
  have hne : ∀ l ∈ cls, ∃ k, k ∈ ndN ts ls l := fun l h => ld_nd cg (R.ok l h)
  refine s_cons (s_set (i := 6) sc_sh.nd (q_cal CW hr1 (a_cons (qv 4 rfl (a_cons (qv 5 rfl (a_nil ⟨.ref tb, ts, ls, tk', cls, rfl, hB, DB', many, hne, ?_⟩)))))))
  refine s_cons (s_if (b_gt (qv 6 rfl (q_int ?_))))
  refine ifB_dec (fun hb => s_cons (s_raise th TW ⟨G, S0, kb cls R (by omega)⟩)) (fun hb => ?_)
  have hb' : ¬ 200 < manyW (ndN ts ls) cls := by omega
  refine s_nil (s_cons (s_set (i := 7) sc_sh.nd (q_non ?_)))
  refine s_cons (s_for (L2.passes_of rfl) rfl (i_range1 rfl B.range (qv 6 rfl ?_) rfl))
  refine ⟨by omega, by omega, ?_⟩
  let c := cst kws
  refine ⟨fun m ρ' G' => ∃ (o : Option (Nat × Nat × List Nat)) (v1 v2 v3 v4 v5 : Option W), ρ' = [some t, some l, some d, some (.int k), some (.ref tb), some (.lst (nW cls)), some (.int (manyW (ndN ts ls) cls : Nat)), some (oS ts ls cls o), v1, v2, v3, v4, v5] ∧ G' = G0 ∧ ShI ts ls c (Lf ls k) cls m o, ⟨none, none, none, none, none, none, rfl, rfl, fun w hw => absurd hw (Nat.not_lt_zero _)⟩,
    fun _ _ _ _ _ => trivial, fun m x ρ' G' hx ⟨o, v1, v2, v3, v4, v5, e1, e2, SI⟩ => ?_, fun ρ' G' ⟨o, v1, v2, v3, v4, v5, e1, e2, SI⟩ => ?_⟩
  · obtain ⟨hm, rfl⟩ := rng0_item hx
    have hm : m < manyW (ndN ts ls) cls := by simpa using hm
    subst e1 e2
    refine g_name (i := 8) sc_sh.nd ?_
    refine s_cons (s_set (i := 9) sc_sh.nd (q_cal CB hr (a_cons (qv 0 rfl (a_cons (qv 1 rfl (a_cons (q_cal CP hr1 (a_cons (qv 4 rfl (a_cons (qv 5 rfl (a_cons (qv 8 rfl (a_nil ⟨.ref tb, ts, ls, tk', cls, m, rfl, hB, DB', many, fun l h => ⟨(R.ok l h).1, hne l h⟩, fun pa pkd hpa DP => ?_⟩)))))))))))))))
    have Sp : Sub G' (aup G' pa (.dK pkd)) := Sub.new hpa
    refine a_cons (q_ix (qv 1 rfl (qv 3 rfl (fIx_ls (TI.hL.sub Sp) (nW_at hkl) ?_))))
    refine a_nil ⟨t, l, .ref pa, ts, ls, pkOf ts ls cls m, (· ∈ cls), _, rfl, ⟨TI.hT.sub Sp, TI.hL.sub Sp, ⟨pkd, ts.length, .inl aup_same, DP⟩, O, way_pk cg R m⟩, R.hd, fun oo hoo => ?_⟩
    refine SQ.less Sp ?_
    refine s_cons (s_if (b_is (qv 9 rfl (q_non ?_))))
    cases oo with
    | none =>
      refine ifT (s_cons (s_cont ⟨o, _, _, _, _, _, rfl, rfl, ?_⟩))
      cases o with
      | none =>
        exact fun w hw => by
          by_cases cc : w < m
          · exact SI w cc
          · have : w = m := by omega
            subst this; exact hoo
      | some o =>
        obtain ⟨v, w0, ord0⟩ := o
        exact ⟨Nat.lt_succ_of_lt SI.1, SI.2.1, SI.2.2.1, fun w hw => by
          by_cases cc : w < m
          · exact SI.2.2.2 w cc
          · have : w = m := by omega
            subst this; exact .inl hoo⟩
    | some ord =>
      refine ifF (s_nil ?_)
      have hpk : ∀ x ∈ ord, ∃ mm, pkOf ts ls cls m x = some mm ∧ mm < ts.length := fun x hx => by
        obtain ⟨_, mm, h1, h2, _⟩ := (way_pk cg R m).h x (reach_ok (way_pk cg R m) R.hd (hoo.rch x hx))
        exact ⟨mm, h1, h2⟩
      have ol : ord.length ≤ 400 := by
        have := nodup_below ts.length ord hoo.top.nd fun x hx => (R.ok x (reach_ok (way_pk cg R m) R.hd (hoo.rch x hx))).1
        omega
      refine s_cons (s_set (i := 10) sc_sh.nd (q_sum B.sum (a_cons (q_v (q_lc sc_sh.nd (blkOk_by (N := nSh) (sc := defScope sSh) (own := [("lead", 11), ("at", 12)]) (by decide +kernel)) (i_list (qv 9 rfl ⟨_, rfl, ?_⟩)))))))
      refine lk_map2 (zs := ord) (fun (x : Nat) => W.int x) (fun x => W.int ((pkOf ts ls cls m x).getD 0 : Nat)) (fun x => W.int (c (tmAt ts ((pkOf ts ls cls m x).getD 0)) : Nat)) sc_sh.nd (by omega) (fun _ _ _ => rfl) (fun z hz D ws hD s0 H0 C cl fp => ?_) (fun D hD => ?_)
      · obtain ⟨mm, h1, h2⟩ := hpk z hz
        have tm : ts[mm]? = some (tmAt ts mm) := at_of (d := Tm.num 0) h2
        rw [h1]
        refine q_cal CC hr1 (a_cons (q_ix (qv 0 rfl (qv 12 rfl (fIx_ls (TI.hT.new hD) (tW_at tm) ?_)))))
        exact a_cons (qv 2 rfl (a_nil ⟨tmAt ts mm, d, kws, rfl, hD0.new hD, hC, rfl, rfl⟩))
      · refine frz_new hD (a_nil ⟨ord.map fun x => ((c (tmAt ts ((pkOf ts ls cls m x).getD 0)) : Nat) : Int), by rw [List.map_map]; rfl, ?_⟩)
        have es : (ord.map fun x => ((c (tmAt ts ((pkOf ts ls cls m x).getD 0)) : Nat) : Int)).sum = ((cSum ts c (pkOf ts ls cls m) ord : Nat) : Int) := by
          unfold cSum
          rw [← sum_cast, List.map_map]; rfl
        rw [es]
        generalize hS : cSum ts c (pkOf ts ls cls m) ord = S
        refine s_cons (s_if (WQ.test (w_or (b_is (qv 7 rfl (q_non ?_))))))
        have new : (∀ v w0 ord0, o = some (v, w0, ord0) → S ≤ v) → ShI ts ls c (Lf ls k) cls (m + 1) (some (S, m, ord)) := fun h => ⟨Nat.lt_succ_self _, hoo, hS.symm, fun w hw => by
          by_cases cc : w < m
          · cases o with
            | none => exact .inl (SI w cc)
            | some o =>
              obtain ⟨v, w0, ord0⟩ := o
              rcases SI.2.2.2 w cc with h1 | ⟨ord1, h1, h2⟩
              · exact .inl h1
              · exact .inr ⟨ord1, h1, Nat.le_trans (h _ _ _ rfl) h2⟩
          · have : w = m := by omega
            subst this
            exact .inr ⟨ord, hoo, by rw [hS]; exact Nat.le_refl _⟩⟩
        cases o with
        | none =>
          refine ifT (ifT (s_cons (s_set (i := 7) sc_sh.nd (q_tup (a_cons (qv 10 rfl (a_cons (qv 9 rfl (a_nil ?_)))))))))
          exact s_nil (s_nil ⟨some (S, m, ord), _, _, _, _, _, rfl, rfl, new fun _ _ _ e => by cases e⟩)
        | some o =>
          obtain ⟨v, w0, ord0⟩ := o
          refine ifF (w_or1 (b_lt (qv 10 rfl (q_ix (qv 7 rfl (q_int ?_))))))
          refine ifB_dec (fun h => ?_) (fun h => ?_)
          · refine s_cons (s_set (i := 7) sc_sh.nd (q_tup (a_cons (qv 10 rfl (a_cons (qv 9 rfl (a_nil ?_)))))))
            exact s_nil (s_nil ⟨some (S, m, ord), _, _, _, _, _, rfl, rfl, new fun _ _ _ e => by cases e; omega⟩)
          · refine s_nil (s_nil ⟨some (v, w0, ord0), _, _, _, _, _, rfl, rfl, Nat.lt_succ_of_lt SI.1, SI.2.1, SI.2.2.1, fun w hw => ?_⟩)
            by_cases cc : w < m
            · exact SI.2.2.2 w cc
            · have : w = m := by omega
              subst this
              exact .inr ⟨ord, hoo, by rw [hS]; omega⟩
  · have el : (rngW 0 1 ((manyW (ndN ts ls) cls : Nat) : Int).toNat).length = manyW (ndN ts ls) cls := by rw [rngW_length]; simp
    rw [el] at SI
    subst e1 e2
    exact s_cons (s_ret (qv 7 rfl ⟨G, S0, kk cls o R hb' SI⟩))
end
end SW
namespace SW
open PySem PySem.Spec L2 AL
theorem mulok {i j : Int} (h : -(2 ^ 64) < i) (h' : i < 2 ^ 64) : IntMulOk i j := CMul.ok (.inl ⟨h, h'⟩)
theorem mulokR {i j : Int} (h : -(2 ^ 64) < j) (h' : j < 2 ^ 64) : IntMulOk i j := CMul.ok (.inr ⟨h, h'⟩)
/-- a short text of plain signs -/
def Sm (x : Str) : Prop := PyData.strOk x = true ∧ x.length ≤ 8
def abc : Str := "abcdefghijklmnopqrstuvwxyz"
theorem abc_at {i : Int} (h0 : 0 ≤ i) (h : i < 26) : ∃ c, atI abc.cps.toList i = some c ∧ c < 0x110000 := by
  have l : abc.cps.toList.length = 26 := by decide +kernel
  obtain ⟨j, rfl⟩ : ∃ j : Nat, i = j := ⟨i.toNat, by omega⟩
  have hj : j < abc.cps.toList.length := by omega
  have a : abc.cps.toList.all (fun c => decide (c < 0x110000)) = true := by decide +kernel
  refine ⟨abc.cps.toList[j], atI_nat (List.getElem?_eq_getElem hj), ?_⟩
  exact of_decide_eq_true (List.all_eq_true.mp a _ (List.getElem_mem hj))
theorem div_nn {a b : Int} (h : 0 ≤ a) (hb : 0 ≤ b) : 0 ≤ a / b := Int.ediv_nonneg h hb
theorem cdivw {i j : Int} (h : 0 < j) (h' : j.natAbs.log2 < 9000) : CDivW i j := ⟨h, h'⟩
section
variable {P : Program} {w : World} {K : PySem.W.Frag} {mg : Str → Option Value} {base : Heap}
abbrev sWd : Stmt := top 26
theorem sc_wd : FnScope ["cell", "head", "letters", "m", "size", "place", "fill"] ["cell", "head"] (defScope sWd) := ⟨rfl, rfl, rfl, by decide +kernel, rfl, by decide +kernel, by decide +kernel⟩
def spWd : ASp := fun ws G K _ => ∃ (cell head : Int), ws = [.int cell, .int head] ∧ ∀ x, Sm x → K (.str x) G
theorem ok_wd {f : Addr} {fd : FuncData} (F : Fun K "_law_word" "_law_word" sWd f fd) : FnOk P w K mg base CX0 1 f fd ["cell", "head"] (low ⟨P, w, K⟩ spWd) := by
  refine fnA_of F sc_wd (fun ws G Kc KE ⟨cell, head, e, _⟩ => by rw [e]; rfl) fun cdv A outer s H E ws G Kc KE hr ⟨cell, head, e, kk⟩ => ?_
  subst e
  refine s_cons (s_set (i := 2) sc_wd.nd (q_str ?_))
  refine s_cons (s_set (i := 3) sc_wd.nd (q_mod (q_mul (qv 0 rfl (q_int ⟨mulokR (by decide) (by decide), ?_⟩)))))
  refine q_int ⟨by decide, ?_⟩
  have m0 := Int.emod_nonneg (cell * 69621) (show (2147483587 : Int) ≠ 0 by decide)
  generalize cell * 69621 % 2147483587 = m at m0 ⊢
  refine s_cons (s_set (i := 4) sc_wd.nd (q_add (q_int (q_mod (qv 3 rfl (q_int ⟨by decide, ?_⟩))))))
  refine s_cons (s_cut (P := fun ρ2 G2 => ∃ z : Int, ρ2 = [some (.int cell), some (.int head), some (.str abc), some (.int m), some (.int z), none, none] ∧ 1 ≤ z ∧ z ≤ 8 ∧ G2 = G) ?_ ?_)
  · refine s_if (b_eq (u64 hr) (q_mod (qv 1 rfl (q_int ⟨by decide, ?_⟩))))
    refine q_int (ifB_dec (fun _ => ?_) (fun _ => ?_))
    · refine s_cons (s_set (i := 4) sc_wd.nd (q_add (q_int (q_mod (q_fdiv (qv 1 rfl (q_int ⟨cdivw (by decide) (by decide), ?_⟩)))))))
      refine q_int ⟨by decide, ?_⟩
      exact s_nil ⟨_, rfl, by omega, by omega, rfl⟩
    · exact s_nil ⟨_, rfl, by omega, by omega, rfl⟩
  rintro ρ2 G2 ⟨z, rfl, z1, z2, rfl⟩
  have md0 : 0 ≤ m / 8 := div_nn m0 (by decide)
  refine s_cons (s_set (i := 5) sc_wd.nd (q_mod (q_fdiv (qv 3 rfl (q_int ⟨cdivw (by decide) (by decide), ?_⟩)))))
  refine qv 4 rfl ⟨by omega, ?_⟩
  have pl0 := Int.emod_nonneg (m / 8) (show z ≠ 0 by omega)
  have pl1 := Int.emod_lt_of_pos (m / 8) (show 0 < z by omega)
  generalize m / 8 % z = pl at pl0 pl1 ⊢
  obtain ⟨pn, rfl⟩ : ∃ pn : Nat, pl = pn := ⟨pl.toNat, by omega⟩
  refine s_cons (s_set (i := 6) sc_wd.nd (q_ix (qv 2 rfl (q_mod (q_fdiv (qv 1 rfl (q_int ⟨cdivw (by decide) (by decide), ?_⟩)))))))
  refine q_int ⟨by decide, ?_⟩
  obtain ⟨c1, hc1, hk1⟩ := abc_at (Int.emod_nonneg (head / 16) (show (26 : Int) ≠ 0 by decide)) (Int.emod_lt_of_pos (head / 16) (by decide))
  refine ⟨by decide +kernel, c1, hc1, ?_⟩
  refine s_cons (s_ret (q_add (q_add (q_mulS (qv 6 rfl (qv 5 rfl ⟨mul_okS (by omega), ?_⟩))))))
  refine q_ix (qv 2 rfl (q_mod (q_fdiv (qv 3 rfl (q_int ⟨cdivw (by decide) (by decide), ?_⟩)))))
  refine q_int ⟨by decide, ?_⟩
  obtain ⟨c2, hc2, hk2⟩ := abc_at (Int.emod_nonneg (m / 64) (show (26 : Int) ≠ 0 by decide)) (Int.emod_lt_of_pos (m / 64) (by decide))
  refine ⟨by decide +kernel, c2, hc2, ?_⟩
  have l1 : (Txt.mul ⟨#[c1]⟩ (pn : Int)).length = pn := by
    show (Txt.mul ⟨#[c1]⟩ (pn : Int)).cps.size = pn
    rw [← Array.length_toList, mul_cps (by omega), List.length_replicate]
  have l2 : (⟨#[c2]⟩ : Str).length = 1 := rfl
  refine ⟨?_, ?_⟩
  · rw [l1, l2]; exact Nat.le_trans (show pn + 1 ≤ 100 by omega) (by decide)
  refine q_mulS (qv 6 rfl (q_sub (q_sub (qv 4 rfl (q_int ?_)))))
  refine qv 5 rfl ?_
  obtain ⟨qn, hq⟩ : ∃ qn : Nat, z - 1 - (pn : Int) = qn := ⟨(z - 1 - (pn : Int)).toNat, by omega⟩
  dsimp only [fSub]
  rw [hq]
  refine ⟨mul_okS (by omega), ?_⟩
  have l3 : (Txt.mul ⟨#[c1]⟩ (qn : Int)).length = qn := by
    show (Txt.mul ⟨#[c1]⟩ (qn : Int)).cps.size = qn
    rw [← Array.length_toList, mul_cps (by omega), List.length_replicate]
  have lA : ∀ a b : Str, (a ++ b).length = a.length + b.length := fun a b => by
    show (a.cps ++ b.cps).size = _
    rw [Array.size_append]; rfl
  have tA : ∀ a b : Str, (a ++ b).cps.toList = a.cps.toList ++ b.cps.toList := fun a b => by
    show (a.cps ++ b.cps).toList = _
    rw [Array.toList_append]
  refine ⟨?_, G2, Sub.refl, kk _ ⟨?_, ?_⟩⟩
  · rw [lA, l1, l2, l3]; exact Nat.le_trans (show pn + 1 + qn ≤ 100 by omega) (by decide)
  · unfold PyData.strOk
    rw [← Array.all_toList, List.all_eq_true]
    intro c hc
    rw [tA, tA, mul_cps (by omega), mul_cps (by omega)] at hc
    refine decide_eq_true ?_
    rcases List.mem_append.mp hc with hc | hc
    · rcases List.mem_append.mp hc with hc | hc
      · rw [(List.mem_replicate.mp hc).2]; exact hk1
      · have : c = c2 := by simpa using hc
        rw [this]; exact hk2
    · rw [(List.mem_replicate.mp hc).2]; exact hk1
  · rw [lA, lA, l1, l2, l3]; omega
abbrev sNu : Stmt := top 27
theorem sc_nu : FnScope ["cell", "m"] ["cell"] (defScope sNu) := ⟨rfl, rfl, rfl, by decide +kernel, rfl, by decide +kernel, by decide +kernel⟩
def BitsOk (n : Int) : Prop := Builtin.Int.intBits n ≤ 1048576
def spNu : ASp := fun ws G K _ => ∃ (cell : Int), ws = [.int cell] ∧ BitsOk cell ∧ ∀ n, K (.int n) G
theorem ok_nu {f : Addr} {fd : FuncData} (F : Fun K "_law_number" "_law_number" sNu f fd) : FnOk P w K mg base CX0 1 f fd ["cell"] (low ⟨P, w, K⟩ spNu) := by
  refine fnA_of F sc_nu (fun ws G Kc KE ⟨cell, e, _⟩ => by rw [e]; rfl) fun cdv A outer s H E ws G Kc KE hr ⟨cell, e, hb, kk⟩ => ?_
  subst e
  refine s_cons (s_set (i := 1) sc_nu.nd (q_mod (q_mul (qv 0 rfl (q_int ⟨mulokR (by decide) (by decide), ?_⟩)))))
  refine q_int ⟨by decide, ?_⟩
  generalize cell * 40014 % 2147483563 = m
  refine s_cons (s_if (b_eq (u64 hr) (q_mod (qv 1 rfl (q_int ⟨by decide, ?_⟩)))))
  refine q_int (ifB_dec (fun _ => ?_) (fun _ => ?_))
  · refine s_cons (s_ret (q_sub (q_mod (q_mul (qv 0 rfl (q_add (q_mul (q_int (q_pow (q_int (q_int ⟨?_, ?_⟩))))))))))) 
    · exact ⟨by decide, by decide, by decide⟩
    refine ⟨mulok (by decide) (by decide), ?_⟩
    refine q_int ⟨?_, ?_⟩
    · refine CMulX.ok ?_
      have h1 : Builtin.Int.intBits (7 * (10 : Int) ^ (59 : Int).toNat + 3) ≤ 1000 := by decide +kernel
      have hb : Builtin.Int.intBits cell ≤ 1048576 := hb
      show ((Builtin.Int.intBits cell : Nat) : Int) + ((Builtin.Int.intBits _ : Nat) : Int) ≤ 134217728
      omega
    refine q_sub (q_mul (q_int (q_pow (q_int (q_int ⟨⟨by decide, by decide, by decide⟩, ?_⟩)))))
    refine ⟨mulok (by decide) (by decide), ?_⟩
    refine q_int ⟨by decide +kernel, ?_⟩
    refine q_sub (q_pow (q_int (q_int ⟨⟨by decide, by decide, by decide⟩, ?_⟩)))
    exact q_int ⟨G, Sub.refl, kk _⟩
  · refine s_nil (s_cons (s_ret (q_sub (q_mod (q_fdiv (qv 1 rfl (q_int ⟨cdivw (by decide) (by decide), ?_⟩)))))))
    refine q_int ⟨by decide, ?_⟩
    exact q_int ⟨G, Sub.refl, kk _⟩
/-- a term as it is drawn -/
structure TmOk (many : Nat) (t : Tm) : Prop where
  lt : ∀ k ∈ arms t, k < many
  four : (arms t).length ≤ 4
  ok : okW t.W = true
theorem okW_of {x : Str} {ks : List Nat} (h : PyData.strOk x = true) : okW (Tm.of x ks).W = true := by
  have e1 : PyData.strOk ("of" : Str) = true := by decide +kernel
  show (PyData.strOk ("of" : Str) && (PyData.strOk x && (okWs (nW ks) && true))) = true
  rw [e1, h, okWs_nW]; rfl
theorem okW_name {x : Str} (h : PyData.strOk x = true) : okW (Tm.name x).W = true := by
  have e1 : PyData.strOk ("name" : Str) = true := by decide +kernel
  show (PyData.strOk ("name" : Str) && (PyData.strOk x && true)) = true
  rw [e1, h]; rfl
theorem okW_num (n : Int) : okW (Tm.num n).W = true := by
  have e1 : PyData.strOk ("num" : Str) = true := by decide +kernel
  show (PyData.strOk ("num" : Str) && (true && true)) = true
  rw [e1]; rfl
abbrev sKn : Stmt := top 28
abbrev nKn : List Str := ["cell", "many", "head", "m", "word", "count", "factors", "factor"]
theorem sc_kn : FnScope nKn ["cell", "many", "head"] (defScope sKn) := ⟨rfl, rfl, rfl, by decide +kernel, rfl, by decide +kernel, by decide +kernel⟩
def spKn : ASp := fun ws G K _ => ∃ (cell head : Int) (many : Nat), ws = [.int cell, .int many, .int head] ∧ 1 ≤ many ∧ ∀ x ks, TmOk many (.of x ks) → K (Tm.of x ks).W G
def strL (xs : List Str) : List W := xs.map W.str
theorem words_at {xs : List Str} {i : Int} (h0 : 0 ≤ i) (h : i < xs.length) (ok : ∀ x ∈ xs, PyData.strOk x = true) : ∃ x, atI (strL xs) i = some (.str x) ∧ PyData.strOk x = true := by
  obtain ⟨j, rfl⟩ : ∃ j : Nat, i = j := ⟨i.toNat, by omega⟩
  have hj : j < xs.length := by omega
  refine ⟨xs[j], atI_nat (by rw [strL, List.getElem?_map, List.getElem?_eq_getElem hj]; rfl), ok _ (List.getElem_mem hj)⟩
theorem ok_kn {f : Addr} {fd : FuncData} (F : Fun K "_law_knot" "_law_knot" sKn f fd) (B : Bl mg) (CW : Cal P w K mg base "_law_word" 1 ["cell", "head"] spWd) : FnOk P w K mg base CX0 2 f fd ["cell", "many", "head"] (low ⟨P, w, K⟩ spKn) := by
  refine fnA_of F sc_kn (fun ws G Kc KE ⟨cell, head, many, e, _⟩ => by rw [e]; rfl) fun cdv A outer s H E ws G Kc KE hr ⟨cell, head, many, e, hm, kk⟩ => ?_
  subst e
  refine s_cons (s_set (i := 3) sc_kn.nd (q_mod (q_mul (qv 0 rfl (q_int ⟨mulokR (by decide) (by decide), ?_⟩)))))
  refine q_int ⟨by decide, ?_⟩
  have m0 := Int.emod_nonneg (cell * 16807) (show (2147483629 : Int) ≠ 0 by decide)
  generalize cell * 16807 % 2147483629 = m at m0 ⊢
  refine s_cons (s_set (i := 4) sc_kn.nd (q_ix (q_v (q_lst (a_cons (q_str (a_cons (q_str (a_cons (q_str (a_cons (q_str (a_cons (q_str (a_cons (q_str (a_nil fun p hp => frz_new hp ?_)))))))))))))))))
  refine q_mod (qv 3 rfl (q_int ⟨by decide, ?_⟩))
  obtain ⟨wd, hwd, owd⟩ := words_at (xs := ["plus", "times", "neg", "bind", "plus", "bind"]) (Int.emod_nonneg m (show (6 : Int) ≠ 0 by decide)) (Int.emod_lt_of_pos m (by decide)) (by decide +kernel)
  refine fIx_ls (xs := strL ["plus", "times", "neg", "bind", "plus", "bind"]) rfl hwd ?_
  refine s_cons (s_cut (P := fun ρ2 G2 => ∃ z : Int, ρ2 = [some (.int cell), some (.int many), some (.int head), some (.int m), some (.str wd), some (.int z), none, none] ∧ 1 ≤ z ∧ z ≤ 4 ∧ G2 = G) ?_ ?_)
  · refine s_set (i := 5) sc_kn.nd (q_sub (q_int (q_int1 B.int (a_cons (q_eq (u64 hr) (qv 4 rfl (q_str (a_nil ?_))))))))
    refine ⟨_, rfl, ?_, ?_, rfl⟩
    · split <;> omega
    · split <;> omega
  rintro ρ2 G2 ⟨z, rfl, z1, z2, rfl⟩
  refine s_cons (s_cut (P := fun ρ2 G3 => ∃ z : Int, ρ2 = [some (.int cell), some (.int many), some (.int head), some (.int m), some (.str wd), some (.int z), none, none] ∧ 1 ≤ z ∧ z ≤ 4 ∧ G3 = G2) ?_ ?_)
  · refine s_if (b_gt (q_mod (q_fdiv (qv 3 rfl (q_int ⟨cdivw (by decide) (by decide), ?_⟩)))))
    refine q_int ⟨by decide, ?_⟩
    refine q_int (ifB_dec (fun _ => ?_) (fun _ => ?_))
    · refine s_cons (s_set (i := 5) sc_kn.nd (q_add (q_int (q_mod (q_fdiv (qv 3 rfl (q_int ⟨cdivw (by decide) (by decide), ?_⟩)))))))
      refine q_int ⟨by decide, ?_⟩
      exact s_nil ⟨_, rfl, by omega, by omega, rfl⟩
    · exact s_nil ⟨z, rfl, z1, z2, rfl⟩
  rintro ρ2 G3 ⟨z, rfl, z1, z2, rfl⟩
  refine s_cons (s_cut (P := fun ρ2 G4 => ∃ wd : Str, ρ2 = [some (.int cell), some (.int many), some (.int head), some (.int m), some (.str wd), some (.int z), none, none] ∧ PyData.strOk wd = true ∧ G4 = G3) ?_ ?_)
  · refine s_if (b_eq (u64 hr) (q_mod (q_fdiv (qv 3 rfl (q_int ⟨cdivw (by decide) (by decide), ?_⟩)))))
    refine q_int ⟨by decide, ?_⟩
    refine q_int (ifB_dec (fun _ => ?_) (fun _ => ?_))
    · refine s_cons (s_set (i := 4) sc_kn.nd (q_cal CW hr (a_cons (q_mod (q_fdiv (qv 3 rfl (q_int ⟨cdivw (by decide) (by decide), ?_⟩)))))))
      refine q_int ⟨by decide, ?_⟩
      refine a_cons (qv 2 rfl (a_nil ⟨_, head, rfl, fun x hx => ?_⟩))
      exact s_nil ⟨x, rfl, hx.1, rfl⟩
    · exact s_nil ⟨wd, rfl, owd, rfl⟩
  rintro ρ2 G4 ⟨wd, rfl, owd, rfl⟩
  obtain ⟨zn, rfl⟩ : ∃ zn : Nat, z = zn := ⟨z.toNat, by omega⟩
  refine s_cons (s_set (i := 6) sc_kn.nd (q_v (q_sl (q_v (q_lst (a_cons (q_int (a_cons (q_int (a_cons (q_int (a_cons (q_int (a_nil fun p hp => frz_new hp ?_))))))))))))))
  refine o_non (o_some (qv 5 rfl ?_))
  refine fun p hp => frz_new hp ?_
  have cut : cutW [W.int 40692, W.int 39373, W.int 69069, W.int 30323] none (some (zn : Int)) = ([40692, 39373, 69069, 30323].take zn).map W.int := by
    have : zn = 1 ∨ zn = 2 ∨ zn = 3 ∨ zn = 4 := by omega
    rcases this with e | e | e | e <;> subst e <;> rfl
  rw [cut]
  generalize hfs : ([40692, 39373, 69069, 30323].take zn : List Int) = fs
  have fl : fs.length ≤ 4 := by rw [← hfs, List.length_take]; exact Nat.le_trans (Nat.min_le_right _ _) (by decide)
  have fb : ∀ i ∈ fs, 0 ≤ i ∧ i < 100000 := fun i hi => by
    rw [← hfs] at hi
    have := List.mem_of_mem_take hi
    simp at this
    omega
  refine s_cons (s_ret (q_tup (a_cons (q_str (a_cons (qv 4 rfl (a_cons (q_tuple B.tuple (a_cons (q_v (q_lc sc_kn.nd (blkOk_by (N := nKn) (sc := defScope sKn) (own := [("factor", 7)]) (by decide +kernel)) (i_list (qv 6 rfl ⟨_, rfl, ?_⟩)))))))))))))
  refine lk_mapZ (zs := fs) W.int (fun i => W.int ((cell * i % 2147483549 % (many : Int)).toNat : Nat)) sc_kn.nd (by omega) (fun _ _ _ => rfl) (fun i hi D ws hD s0 H0 C cl fp => ?_) (fun D hD => ?_)
  · have := fb i hi
    refine q_mod (q_mod (q_mul (qv 0 rfl (qv 7 rfl ⟨mulokR (by omega) (by omega), ?_⟩))))
    refine q_int ⟨by decide, ?_⟩
    refine qv 1 rfl ⟨by omega, ?_, rfl⟩
    have := Int.emod_nonneg (cell * i % 2147483549) (show (many : Int) ≠ 0 by omega)
    show W.int _ = W.int _
    congr 1
    omega
  · refine frz_new hD (a_nil (a_nil ⟨G4, Sub.refl, ?_⟩))
    have e : fs.map (fun i => W.int ((cell * i % 2147483549 % (many : Int)).toNat : Nat)) = nW (fs.map fun i => (cell * i % 2147483549 % (many : Int)).toNat) := by simp [nW]
    rw [e]
    refine kk wd _ ⟨fun k hk => ?_, ?_, okW_of owd⟩
    · obtain ⟨i, _, rfl⟩ := List.mem_map.mp hk
      have h1 := Int.emod_nonneg (cell * i % 2147483549) (show (many : Int) ≠ 0 by omega)
      have h2 := Int.emod_lt_of_pos (cell * i % 2147483549) (show 0 < (many : Int) by omega)
      omega
    · show (fs.map _).length ≤ 4
      rw [List.length_map]; exact fl
end
end SW
namespace SW
open PySem PySem.Spec L2 AL
theorem cutW_to {xs : List W} (k : Nat) : cutW xs none (some (k : Int)) = xs.take k := by
  unfold cutW
  rw [HT.sIx_none, HT.sIx_nat, List.drop_zero, Nat.sub_zero, ← List.take_take, List.take_length]
theorem okWs_tW : ∀ {ts : List Tm}, (∀ t ∈ ts, okW t.W = true) → okWs (tW ts) = true
  | [], _ => rfl
  | t :: ts, h => by
    show (okW t.W && okWs (tW ts)) = true
    rw [h t List.mem_cons_self, okWs_tW fun t ht => h t (List.mem_cons_of_mem _ ht)]; rfl
theorem dpW_tm (t : Tm) : dpW t.W ≤ 2 := by
  cases t with
  | num n => show max 0 (max 0 0) + 1 ≤ 2; decide
  | name n => show max 0 (max 0 0) + 1 ≤ 2; decide
  | of w ks => show max 0 (max 0 (max (dpWs (nW ks) + 1) 0)) + 1 ≤ 2; rw [dpWs_nW]; decide
theorem dpWs_tW : ∀ ts : List Tm, dpWs (tW ts) ≤ 2
  | [] => by show 0 ≤ 2; decide
  | t :: ts => Nat.max_le.mpr ⟨dpW_tm t, dpWs_tW ts⟩
theorem any_tW (ts : List Tm) (t : Tm) : ((tW ts).any fun z => eqW z t.W) = decide (t ∈ ts) := by
  induction ts with
  | nil => simp [tW]
  | cons u ts ih =>
    show (eqW u.W t.W || (tW ts).any _) = _
    rw [ih]
    by_cases e : u = t
    · subst e; rw [eqW_self]; simp
    · have : eqW u.W t.W = false := by
        cases h : eqW u.W t.W with
        | false => rfl
        | true => exact absurd (Tm.W_inj (eq_of_eqW _ _ h)) e
      rw [this]
      have e2 : ¬ t = u := fun z => e z.symm
      simp [e2]
section
variable {P : Program} {w : World} {K : PySem.W.Frag} {mg : Str → Option Value} {base : Heap}
abbrev sTe : Stmt := top 29
theorem sc_te : FnScope ["cell", "many", "head", "m"] ["cell", "many", "head"] (defScope sTe) := ⟨rfl, rfl, rfl, by decide +kernel, rfl, by decide +kernel, by decide +kernel⟩
def spTe : ASp := fun ws G K _ => ∃ (cell head : Int) (many : Nat), ws = [.int cell, .int many, .int head] ∧ BitsOk cell ∧ ∀ t, TmOk many t → K t.W G
theorem ok_te {f : Addr} {fd : FuncData} (F : Fun K "_law_term" "_law_term" sTe f fd) (CW : Cal P w K mg base "_law_word" 1 ["cell", "head"] spWd) (CN : Cal P w K mg base "_law_number" 1 ["cell"] spNu) (CK : Cal P w K mg base "_law_knot" 2 ["cell", "many", "head"] spKn) : FnOk P w K mg base CX0 3 f fd ["cell", "many", "head"] (low ⟨P, w, K⟩ spTe) := by
  refine fnA_of F sc_te (fun ws G Kc KE ⟨cell, head, many, e, _⟩ => by rw [e]; rfl) fun cdv A outer s H E ws G Kc KE hr ⟨cell, head, many, e, hb, kk⟩ => ?_
  subst e
  have hr1 : Room 1 _ := hr.mono (by decide)
  have nm : ∀ x, PyData.strOk x = true → Kc (.tup [.str "name", .str x]) G := fun x hx => kk (.name x) ⟨(fun k hk => by cases hk), Nat.zero_le _, okW_name hx⟩
  refine s_cons (s_set (i := 3) sc_te.nd (q_mod (q_mul (qv 0 rfl (q_int ⟨mulokR (by decide) (by decide), ?_⟩)))))
  refine q_int ⟨by decide, ?_⟩
  have m0 := Int.emod_nonneg (cell * 48271) (show (2147483647 : Int) ≠ 0 by decide)
  generalize cell * 48271 % 2147483647 = m at m0 ⊢
  refine s_cons (s_if (b_lt (q_mod (qv 3 rfl (q_int ⟨by decide, ?_⟩)))))
  refine q_int (ifB_dec (fun _ => ?_) (fun _ => ?_))
  · refine s_cons (s_ret (q_tup (a_cons (q_str (a_cons (q_cal CN hr1 (a_cons (qv 0 rfl (a_nil ⟨cell, rfl, hb, fun n => ?_⟩)))))))))
    exact a_nil ⟨G, Sub.refl, kk (.num n) ⟨(fun k hk => by cases hk), Nat.zero_le _, okW_num n⟩⟩
  refine s_nil ?_
  refine s_cons (s_if (BQ.mono (K := fun d G' => G' = G ∧ (d = false → 1 ≤ many)) ?_ fun d G' ⟨eG, hd⟩ => ?_))
  · refine WQ.test (w_or (b_lt (q_mod (qv 3 rfl (q_int ⟨by decide, ?_⟩)))))
    refine q_int (ifB_dec (fun _ => ⟨rfl, fun z => by cases z⟩) (fun _ => ?_))
    refine w_or1 (b_eq (u64 hr) (qv 1 rfl (q_int ⟨rfl, fun z => ?_⟩)))
    have := of_decide_eq_false z
    omega
  subst eG
  refine ifB_of (fun _ => ?_) (fun hz => ?_)
  · skip
    refine s_cons (s_if (b_eq (u64 hr) (q_mod (q_fdiv (qv 3 rfl (q_int ⟨cdivw (by decide) (by decide), ?_⟩))))))
    refine q_int ⟨by decide, ?_⟩
    refine q_int (ifB_dec (fun _ => ?_) (fun _ => ?_))
    · refine s_cons (s_ret (q_tup (a_cons (q_str (a_cons (q_cal CW hr1 (a_cons (q_mod (q_fdiv (qv 3 rfl (q_int ⟨cdivw (by decide) (by decide), ?_⟩)))))))))))
      refine q_int ⟨by decide, ?_⟩
      refine a_cons (qv 2 rfl (a_nil ⟨_, head, rfl, fun x hx => ?_⟩))
      exact a_nil ⟨_, Sub.refl, nm x hx.1⟩
    refine s_nil ?_
    refine s_cons (s_if (b_eq (u64 hr) (q_mod (q_fdiv (qv 3 rfl (q_int ⟨cdivw (by decide) (by decide), ?_⟩))))))
    refine q_int ⟨by decide, ?_⟩
    refine q_int (ifB_dec (fun _ => ?_) (fun _ => ?_))
    · refine s_cons (s_ret (q_tup (a_cons (q_str (a_cons (q_ix (q_v (q_lst (a_cons (q_str (a_cons (q_str (a_cons (q_str (a_cons (q_str (a_nil fun p hp => frz_new hp ?_)))))))))))))))))
      refine q_mod (q_fdiv (qv 3 rfl (q_int ⟨cdivw (by decide) (by decide), ?_⟩)))
      refine q_int ⟨by decide, ?_⟩
      obtain ⟨wd, hwd, owd⟩ := words_at (xs := ["plus", "times", "neg", "bind"]) (Int.emod_nonneg (m / 50) (show (4 : Int) ≠ 0 by decide)) (Int.emod_lt_of_pos (m / 50) (by decide)) (by decide +kernel)
      refine fIx_ls (xs := strL ["plus", "times", "neg", "bind"]) rfl hwd ?_
      exact a_nil ⟨_, Sub.refl, nm wd owd⟩
    · refine s_nil (s_cons (s_ret (q_tup (a_cons (q_str (a_cons (q_cal CW hr1 (a_cons (qv 0 rfl (a_cons (qv 2 rfl (a_nil ⟨cell, head, rfl, fun x hx => ?_⟩))))))))))))
      exact a_nil ⟨_, Sub.refl, nm x hx.1⟩
  · refine s_nil (s_cons (s_ret (q_cal CK hr (a_cons (qv 0 rfl (a_cons (qv 1 rfl (a_cons (qv 2 rfl (a_nil ⟨cell, head, many, rfl, hd hz, fun x ks h => ?_⟩))))))))))
    exact ⟨G', Sub.refl, kk _ h⟩
/-! ### _law_made -/
structure Made (ts : List Tm) (es : List Ed) : Prop where
  T : TsOk ts
  le : ts.length ≤ 18
  ok : ∀ t ∈ ts, okW t.W = true
  ends : ∀ e ∈ es, e.a < ts.length ∧ e.b < ts.length
theorem Made.add {ts : List Tm} {es : List Ed} (m : Made ts es) {t : Tm} (h : TmOk ts.length t) (l : ts.length < 18) : Made (ts ++ [t]) es := by
  refine ⟨⟨fun i x ks hi k hk => ?_, fun i x ks hi => ?_, by rw [List.length_append, List.length_singleton]; omega⟩, by rw [List.length_append, List.length_singleton]; omega, fun u hu => ?_, fun e he => ?_⟩
  · by_cases c : i < ts.length
    · rw [List.getElem?_append_left c] at hi; exact m.T.wf i x ks hi k hk
    · rw [List.getElem?_append_right (by omega)] at hi
      have e : t = .of x ks := by
        cases z : i - ts.length with
        | zero => rw [z] at hi; simpa using hi
        | succ n => rw [z] at hi; simp at hi
      subst e
      have := h.lt k hk
      omega
  · by_cases c : i < ts.length
    · rw [List.getElem?_append_left c] at hi; exact m.T.four i x ks hi
    · rw [List.getElem?_append_right (by omega)] at hi
      have e : t = .of x ks := by
        cases z : i - ts.length with
        | zero => rw [z] at hi; simpa using hi
        | succ n => rw [z] at hi; simp at hi
      subst e
      exact h.four
  · rcases List.mem_append.mp hu with hu | hu
    · exact m.ok u hu
    · simp at hu; subst hu; exact h.ok
  · have := m.ends e he
    rw [List.length_append]; omega
theorem Made.edge {ts : List Tm} {es : List Ed} (m : Made ts es) {e : Ed} (h : e.a < ts.length ∧ e.b < ts.length) : Made ts (es ++ [e]) :=
  ⟨m.T, m.le, m.ok, fun x hx => by
    rcases List.mem_append.mp hx with hx | hx
    · exact m.ends x hx
    · simp at hx; subst hx; exact h⟩
theorem Made.nil : Made [] [] := ⟨⟨fun i x ks h => by simp at h, fun i x ks h => by simp at h, Nat.zero_le _⟩, Nat.zero_le _, (fun t h => by cases h), fun e h => by cases h⟩
abbrev sMd : Stmt := top 30
theorem sc_md : FnScope ["script", "head", "rate", "terms", "edges", "cell", "term", "m", "a", "b"] ["script"] (defScope sMd) := ⟨rfl, rfl, rfl, by decide +kernel, rfl, by decide +kernel, by decide +kernel⟩
def spMd (c : Ct) : ASp := fun ws G K _ => ∃ (a : Addr) (ns : List Int), ws = [.ref a] ∧ Scr c G a ns ∧ ns.length ≤ 63 ∧ (∀ n ∈ ns, BitsOk n) ∧ ∀ ts es, Made ts es → (ns = [] → ts = []) → K (.tup [.lst (tW ts), .lst (eW es)]) G
theorem ok_md {f : Addr} {fd : FuncData} (F : Fun K "_law_made" "_law_made" sMd f fd) (B : Bl mg) (CT : Cal P w K mg base "_law_term" 3 ["cell", "many", "head"] spTe) : FnOk P w K mg base CX0 4 f fd ["script"] (low ⟨P, w, K⟩ (spMd ⟨P, w, K⟩)) := by
  refine fnA_of F sc_md (fun ws G Kc KE ⟨a, ns, e, _⟩ => by rw [e]; rfl) fun cdv A outer s H E ws G Kc KE hr ⟨a, ns, e, hS, hn, hbits, kk⟩ => ?_
  subst e
  refine s_cons (s_set (i := 1) sc_md.nd (q_int ?_))
  refine s_cons (s_cut (P := fun ρ2 G2 => ∃ hd : Int, ρ2 = [some (.ref a), some (.int hd), none, none, none, none, none, none, none, none] ∧ G2 = G) ?_ ?_)
  · refine s_if (b_gt (q_lenS B.len (a_cons (qv 0 rfl (a_nil ⟨a, ns, rfl, hS, ?_⟩)))))
    refine q_int (ifB_dec (fun h => ?_) (fun _ => s_nil ⟨_, rfl, rfl⟩))
    have h0 : 0 < ns.length := by omega
    refine s_cons (s_set (i := 1) sc_md.nd (q_mod (q_ixS (qv 0 rfl (q_int ⟨a, ns, 0, ns[0], rfl, rfl, hS, List.getElem?_eq_getElem h0, ?_⟩)))))
    exact q_int ⟨by decide, s_nil ⟨_, rfl, rfl⟩⟩
  rintro ρ2 G2 ⟨hd, rfl, rfl⟩
  refine s_cons (s_set (i := 2) sc_md.nd (q_ix (q_v (q_lst (a_cons (q_int (a_cons (q_int (a_cons (q_int (a_nil fun p hp => frz_new hp ?_)))))))))))
  refine q_mod (qv 1 rfl (q_int ⟨by decide, ?_⟩))
  obtain ⟨rt, hrt, rt0⟩ : ∃ rt : Int, atI [W.int 2, W.int 4, W.int 12] (hd % 3) = some (.int rt) ∧ 0 < rt := by
    have h0 := Int.emod_nonneg hd (show (3 : Int) ≠ 0 by decide)
    have h1 := Int.emod_lt_of_pos hd (show (0 : Int) < 3 by decide)
    have : hd % 3 = 0 ∨ hd % 3 = 1 ∨ hd % 3 = 2 := by omega
    rcases this with e | e | e <;> rw [e]
    · exact ⟨2, rfl, by decide⟩
    · exact ⟨4, rfl, by decide⟩
    · exact ⟨12, rfl, by decide⟩
  refine fIx_ls (xs := [W.int 2, W.int 4, W.int 12]) rfl hrt ?_
  refine s_cons (s_set (i := 3) sc_md.nd (q_lst (a_nil fun tp htp => ?_)))
  refine s_cons (s_set (i := 4) sc_md.nd (q_lst (a_nil fun ep hep => ?_)))
  obtain ⟨hep0, het⟩ := aup_free hep
  have Sx : ∀ o o', Sub G2 (aup (aup G2 tp o) ep o') := fun _ _ => sub2 htp hep0
  have ht : ∀ o o', (aup (aup G2 tp o) ep o') tp = some o := fun _ _ => aup_old het.symm aup_same
  refine s_cons (s_for PassesOwn.never rfl (i_list (q_v (q_slS (qv 0 rfl (o_non (o_some (q_int ⟨ns, hS.sub (Sx _ _), fun p hp => frz_new hp ⟨_, rfl, ?_⟩⟩))))))))
  have ecut : cutW (ns.map W.int) none (some (90 : Int)) = ns.map W.int := by
    have := cutW_to (xs := ns.map W.int) 90
    rw [List.take_of_length_le (by rw [List.length_map]; omega)] at this
    exact this
  rw [ecut]
  refine ⟨fun i ρ' G' => ∃ (ts : List Tm) (es : List Ed) (v1 v2 v3 v4 v5 : Option W), ρ' = [some (.ref a), some (.int hd), some (.int rt), some (.ref tp), some (.ref ep), v1, v2, v3, v4, v5] ∧ G' = aup (aup G2 tp (.lst (tW ts))) ep (.lst (eW es)) ∧ Made ts es ∧ es.length ≤ i ∧ (0 < i → ts ≠ []) ∧ (i = 0 → ts = []),
    ⟨[], [], none, none, none, none, none, rfl, rfl, Made.nil, Nat.le_refl _, fun h => absurd h (Nat.lt_irrefl _), fun _ => rfl⟩, fun _ _ _ _ _ => rfl, fun i x ρ' G' hx ⟨ts, es, v1, v2, v3, v4, v5, e1, e2, M, el, n1, n2⟩ => ?_, fun ρ' G' ⟨ts, es, v1, v2, v3, v4, v5, e1, e2, M, el, n1, n2⟩ => ?_⟩
  · obtain ⟨cell, hc, rfl⟩ : ∃ c : Int, ns[i]? = some c ∧ W.int c = x := by
      rw [List.getElem?_map] at hx; exact Option.map_eq_some_iff.mp hx
    have hi : i < ns.length := (List.getElem?_eq_some_iff.mp hc).1
    have hcb := hbits cell (List.mem_of_getElem? hc)
    subst e1 e2
    refine g_name (i := 5) sc_md.nd ?_
    refine s_cons (s_cut (P := fun ρ2 G3 => ∃ (ts : List Tm) (v2 : Option W), ρ2 = [some (.ref a), some (.int hd), some (.int rt), some (.ref tp), some (.ref ep), some (.int cell), v2, v3, v4, v5] ∧ G3 = aup (aup G2 tp (.lst (tW ts))) ep (.lst (eW es)) ∧ Made ts es ∧ ts ≠ []) ?_ ?_)
    · refine s_if (b_lt (q_len B.len (a_cons (qv 3 rfl (a_nil ⟨_, ht _ _, ?_⟩)))))
      rw [tW_length]
      refine q_int (ifB_dec (fun h18 => ?_) (fun h18 => ?_))
      · refine s_cons (s_set (i := 6) sc_md.nd (q_cal CT hr (a_cons (qv 5 rfl (a_cons (q_len B.len (a_cons (qv 3 rfl (a_nil ⟨_, ht _ _, ?_⟩)))))))))
        rw [tW_length]
        refine a_cons (qv 1 rfl (a_nil ⟨cell, hd, ts.length, rfl, hcb, fun t htm => ?_⟩))
        refine s_cons (s_if (b_nin (u65 hr) (qv 6 rfl (qv 3 rfl (fIn_ok (xs := tW ts) (ht _ _) ?_ ?_)))))
        · have d1 := dpW_tm t
          have d2 := dpWs_tW ts
          rw [htm.ok, okWs_tW M.ok, Bool.true_and, Bool.true_and, Bool.and_eq_true]
          exact ⟨Nat.ble_eq_true_of_le (by omega), Nat.ble_eq_true_of_le (by omega)⟩
        rw [any_tW]
        refine ifB_ndec (fun hn' => ?_) (fun hin => ?_)
        · refine s_cons (s_expr (q_append (qv 3 rfl ⟨tp, _, rfl, ht _ _, ?_⟩)))
          refine a_cons (qv 6 rfl (a_nil ⟨_, ht _ _, ?_, ?_⟩))
          · rw [tW_length]; exact Nat.lt_of_le_of_lt (show ts.length ≤ 400 by have := M.le; omega) (by decide)
          rw [aup2 het.symm]
          have en : tW ts ++ [t.W] = tW (ts ++ [t]) := by simp [tW]
          rw [en]
          exact s_nil (s_nil ⟨ts ++ [t], _, rfl, rfl, M.add htm (by omega), by simp⟩)
        · exact s_nil (s_nil ⟨ts, _, rfl, rfl, M, fun z => by rw [z] at hin; cases hin⟩)
      · exact s_nil ⟨ts, _, rfl, rfl, M, fun z => by rw [z] at h18; exact h18 (by decide)⟩
    rintro ρ2 G3 ⟨ts, v2, rfl, rfl, M, nts⟩
    have hts : 0 < ts.length := List.length_pos_iff.mpr nts
    have nI : (0 : Int) < (ts.length : Int) := by omega
    refine s_cons (s_set (i := 7) sc_md.nd (q_mod (q_mul (qv 5 rfl (q_int ⟨mulokR (by decide) (by decide), ?_⟩)))))
    refine q_int ⟨by decide, ?_⟩
    have m0 := Int.emod_nonneg (cell * 45991) (show (2147483543 : Int) ≠ 0 by decide)
    generalize cell * 45991 % 2147483543 = m at m0 ⊢
    refine s_cons (s_if (b_eq (u64 hr) (q_mod (qv 7 rfl (qv 2 rfl ⟨rt0, ?_⟩)))))
    refine q_int (ifB_dec (fun _ => ?_) (fun _ => ?_))
    · refine s_cons (s_set (i := 8) sc_md.nd (q_mod (q_fdiv (qv 7 rfl (q_int ⟨cdivw (by decide) (by decide), ?_⟩)))))
      refine q_len B.len (a_cons (qv 3 rfl (a_nil ⟨_, ht _ _, ?_⟩)))
      rw [tW_length]
      refine ⟨nI, ?_⟩
      have a0 := Int.emod_nonneg (m / 60) (show (ts.length : Int) ≠ 0 by omega)
      have a1 := Int.emod_lt_of_pos (m / 60) nI
      generalize m / 60 % (ts.length : Int) = av at a0 a1 ⊢
      obtain ⟨an, rfl⟩ : ∃ n : Nat, av = n := ⟨av.toNat, by omega⟩
      refine s_cons (s_set (i := 9) sc_md.nd (q_mod (q_mod (q_mul (qv 5 rfl (q_int ⟨mulokR (by decide) (by decide), ?_⟩))))))
      refine q_int ⟨by decide, ?_⟩
      refine q_len B.len (a_cons (qv 3 rfl (a_nil ⟨_, ht _ _, ?_⟩)))
      rw [tW_length]
      refine ⟨nI, ?_⟩
      have b0 := Int.emod_nonneg (cell * 62089911 % 4294967291) (show (ts.length : Int) ≠ 0 by omega)
      have b1 := Int.emod_lt_of_pos (cell * 62089911 % 4294967291) nI
      generalize cell * 62089911 % 4294967291 % (ts.length : Int) = bv at b0 b1 ⊢
      obtain ⟨bn, rfl⟩ : ∃ n : Nat, bv = n := ⟨bv.toNat, by omega⟩
      refine s_cons (s_expr (q_append (qv 4 rfl ⟨ep, _, rfl, aup_same, ?_⟩)))
      refine a_cons (q_tup (a_cons (qv 8 rfl (a_cons (qv 9 rfl (a_cons (q_add (q_int (q_mod (qv 5 rfl (q_pow (q_int (q_int ⟨⟨by decide, by decide, by decide⟩, ?_⟩)))))))))))))
      refine ⟨by decide, ?_⟩
      refine a_cons (q_tup (a_cons (q_str (a_nil ?_))))
      refine a_nil (a_nil ⟨_, aup_same, ?_, ?_⟩)
      · have : (eW es).length = es.length := by simp [eW]
        rw [this]; exact Nat.lt_of_le_of_lt (show es.length ≤ 63 by omega) (by decide)
      rw [aup_aup]
      refine s_nil (s_nil ⟨ts, es ++ [⟨an, bn, 1 + cell % (10 ^ (12 : Int).toNat), .tup [.str "told"]⟩], _, _, _, _, _, rfl, ?_, M.edge ⟨by show an < _; omega, by show bn < _; omega⟩, by rw [List.length_append, List.length_singleton]; omega, fun _ => nts, fun z => absurd z (Nat.succ_ne_zero _)⟩)
      simp [eW, Ed.W]
    · exact s_nil (s_nil ⟨ts, es, _, _, _, _, _, rfl, rfl, M, by omega, fun _ => nts, fun z => absurd z (Nat.succ_ne_zero _)⟩)
  · rw [List.length_map] at n2
    subst e1 e2
    refine s_frz 3 rfl (ht _ _) ?_
    have a1 : adel (aup (aup G2 tp (.lst (tW ts))) ep (.lst (eW es))) tp = aup G2 ep (.lst (eW es)) := by rw [adel_swap het, adel_aup htp]
    rw [a1]
    refine s_frz 4 rfl aup_same ?_
    rw [adel_aup hep0]
    exact s_cons (s_ret (q_tup (a_cons (qv 3 rfl (a_cons (qv 4 rfl (a_nil ⟨G2, Sub.refl, kk ts es M fun e => n2 (by rw [e]; rfl)⟩)))))))
end
end SW
namespace SW
open PySem PySem.Spec L2 AL
/-! ### heads of terms and trees -/
def kyT : Tr → Str
  | .num _ => "#"
  | .name _ => "@"
  | .of w _ => w
def KyW (w : W) (k : Str) : Prop := (∃ n : Int, w = (Tm.num n).W ∧ k = "#") ∨ (∃ x, w = (Tm.name x).W ∧ k = "@") ∨ ∃ r, w = .tup [.str "of", .str k, r]
theorem kyW_tm (t : Tm) : KyW t.W (ky t) := by
  cases t with
  | num n => exact .inl ⟨n, rfl, rfl⟩
  | name x => exact .inr (.inl ⟨x, rfl, rfl⟩)
  | of w ks => exact .inr (.inr ⟨_, rfl⟩)
theorem kyW_tr (t : Tr) : KyW t.W (kyT t) := by
  cases t with
  | num n => exact .inl ⟨n, by rw [Tr.W], rfl⟩
  | name x => exact .inr (.inl ⟨x, by rw [Tr.W], rfl⟩)
  | of w ks => exact .inr (.inr ⟨_, by rw [Tr.W]; rfl⟩)
def armsT : Tr → List Tr
  | .of _ xs => xs
  | _ => []
def ArW (w : W) (xs : List W) : Prop := (∃ n : Int, w = (Tm.num n).W ∧ xs = []) ∨ (∃ x, w = (Tm.name x).W ∧ xs = []) ∨ ∃ x : Str, w = .tup [.str "of", .str x, .tup xs]
theorem arW_tm (t : Tm) : ArW t.W (nW (arms t)) := by
  cases t with
  | num n => exact .inl ⟨n, rfl, rfl⟩
  | name x => exact .inr (.inl ⟨x, rfl, rfl⟩)
  | of w ks => exact .inr (.inr ⟨w, rfl⟩)
theorem arW_tr (t : Tr) : ArW t.W ((armsT t).map Tr.W) := by
  cases t with
  | num n => exact .inl ⟨n, by rw [Tr.W], rfl⟩
  | name x => exact .inr (.inl ⟨x, by rw [Tr.W], rfl⟩)
  | of w ks => exact .inr (.inr ⟨w, by rw [Tr.W, Tr.Ws_map]; rfl⟩)
def cstK (kws : List (Key × W)) (k : Str) : Nat := match lk kws (.inr k) with
  | some (.int i) => i.toNat
  | _ => 1
theorem cst_K (kws : List (Key × W)) (t : Tm) : cst kws t = cstK kws (ky t) := rfl
theorem CsOk.put {kws : List (Key × W)} (h : CsOk kws) (k : Key) {i : Int} (hi : 1 ≤ i) : CsOk (pk kws k (.int i)) := fun k' w e => by
  rw [lk_pk] at e
  split at e
  · cases e; exact ⟨i.toNat, by congr 1; omega, by omega⟩
  · exact h k' w e
section
variable {P : Program} {w : World} {K : PySem.W.Frag} {mg : Str → Option Value} {base : Heap}
abbrev sKy : Stmt := top 31
theorem sc_ky : FnScope ["term"] ["term"] (defScope sKy) := ⟨rfl, rfl, rfl, by decide +kernel, rfl, by decide +kernel, by decide +kernel⟩
def spKy : ASp := fun ws G K _ => ∃ u k, ws = [u] ∧ KyW u k ∧ K (.str k) G
theorem ok_ky {f : Addr} {fd : FuncData} (F : Fun K "_law_key" "_law_key" sKy f fd) : FnOk P w K mg base CX0 1 f fd ["term"] (low ⟨P, w, K⟩ spKy) := by
  refine fnA_of F sc_ky (fun ws G Kc KE ⟨u, k, e, _⟩ => by rw [e]; rfl) fun cdv A outer s H E ws G Kc KE hr ⟨u, k, e, hk, kk⟩ => ?_
  subst e
  refine s_cons (s_if (b_eq (u64 hr) (q_ix (qv 0 rfl (q_int ?_)))))
  rcases hk with ⟨n, rfl, rfl⟩ | ⟨x, rfl, rfl⟩ | ⟨r, rfl⟩
  · exact q_str (ifB_T (by decide +kernel) (s_cons (s_ret (q_str ⟨G, Sub.refl, kk⟩))))
  · refine q_str (ifB_F (by decide +kernel) (s_nil (s_cons (s_if (b_eq (u64 hr) (q_ix (qv 0 rfl (q_int ?_))))))))
    exact q_str (ifB_T (by decide +kernel) (s_cons (s_ret (q_str ⟨G, Sub.refl, kk⟩))))
  · refine q_str (ifB_F (by decide +kernel) (s_nil (s_cons (s_if (b_eq (u64 hr) (q_ix (qv 0 rfl (q_int ?_))))))))
    refine q_str (ifB_F (by decide +kernel) (s_nil (s_cons (s_ret (q_ix (qv 0 rfl (q_int ?_)))))))
    exact ⟨G, Sub.refl, kk⟩
abbrev sLc : Stmt := top 33
theorem sc_lc : FnScope ["term", "costs"] ["term", "costs"] (defScope sLc) := ⟨rfl, rfl, rfl, by decide +kernel, rfl, by decide +kernel, by decide +kernel⟩
def spLc : ASp := fun ws G K _ => ∃ u k d kws, ws = [u, d] ∧ KyW u k ∧ DkA G d kws ∧ CsOk kws ∧ K (.int (cstK kws k : Nat)) G
theorem ok_lc {f : Addr} {fd : FuncData} (F : Fun K "_law_cost" "_law_cost" sLc f fd) (CK : Cal P w K mg base "_law_key" 1 ["term"] spKy) : FnOk P w K mg base CX0 2 f fd ["term", "costs"] (low ⟨P, w, K⟩ spLc) := by
  refine fnA_of F sc_lc (fun ws G Kc KE ⟨u, k, d, kws, e, _⟩ => by rw [e]; rfl) fun cdv A outer s H E ws G Kc KE hr ⟨u, k, d, kws, e, hk, hD, hC, kk⟩ => ?_
  subst e
  refine s_cons (s_if (b_din (u64 hr) (q_cal CK hr (a_cons (qv 0 rfl (a_nil ⟨u, k, rfl, hk, ?_⟩))))))
  refine qv 1 rfl ⟨kws, _, hD, rfl, ?_⟩
  cases e : lk kws (.inr k) with
  | none =>
    have e2 : cstK kws k = 1 := by unfold cstK; rw [e]
    rw [e2] at kk
    exact ifF (s_nil (s_cons (s_ret (q_int ⟨G, Sub.refl, kk⟩))))
  | some v =>
    obtain ⟨n, rfl, _⟩ := hC _ _ e
    have e2 : cstK kws k = n := by unfold cstK; rw [e]; exact Int.toNat_natCast n
    rw [e2] at kk
    refine ifT (s_cons (s_ret (q_dget (u64 hr) (qv 1 rfl (q_cal CK hr (a_cons (qv 0 rfl (a_nil ⟨u, k, rfl, hk, ?_⟩))))))))
    exact ⟨kws, _, _, hD, rfl, e, G, Sub.refl, kk⟩
abbrev sLa : Stmt := top 34
theorem sc_la : FnScope ["term"] ["term"] (defScope sLa) := ⟨rfl, rfl, rfl, by decide +kernel, rfl, by decide +kernel, by decide +kernel⟩
def spLa : ASp := fun ws G K _ => ∃ u xs, ws = [u] ∧ ArW u xs ∧ K (.lst xs) G
theorem ok_la {f : Addr} {fd : FuncData} (F : Fun K "_law_arms" "_law_arms" sLa f fd) (B : Bl mg) : FnOk P w K mg base CX0 1 f fd ["term"] (low ⟨P, w, K⟩ spLa) := by
  refine fnA_of F sc_la (fun ws G Kc KE ⟨u, k, e, _⟩ => by rw [e]; rfl) fun cdv A outer s H E ws G Kc KE hr ⟨u, k, e, hk, kk⟩ => ?_
  subst e
  refine s_cons (s_if (b_eq (u64 hr) (q_ix (qv 0 rfl (q_int ?_)))))
  rcases hk with ⟨n, rfl, rfl⟩ | ⟨x, rfl, rfl⟩ | ⟨r, rfl⟩
  · exact q_str (ifB_F (by decide +kernel) (s_nil (s_cons (s_retV (q_lst (a_nil fun p hp => frz_new hp ⟨G, Sub.refl, kk⟩))))))
  · exact q_str (ifB_F (by decide +kernel) (s_nil (s_cons (s_retV (q_lst (a_nil fun p hp => frz_new hp ⟨G, Sub.refl, kk⟩))))))
  · refine q_str (ifB_T (by decide +kernel) (s_cons (s_retV (q_list B.list (a_cons (q_ix (qv 0 rfl (q_int ?_))))))))
    exact a_nil fun p hp => frz_new hp ⟨G, Sub.refl, kk⟩
/-! ### _law_costs -/
abbrev sCs : Stmt := top 32
theorem sc_cs : FnScope ["script", "terms", "costs", "k", "cell", "m"] ["script", "terms"] (defScope sCs) := ⟨rfl, rfl, rfl, by decide +kernel, rfl, by decide +kernel, by decide +kernel⟩
def spCs (c : Ct) : ASp := fun ws G K _ => ∃ (a : Addr) (ns : List Int) (t : W) (ts : List Tm), ws = [.ref a, t] ∧ Scr c G a ns ∧ LsA G t (tW ts) ∧ ts.length ≤ 400 ∧ (ns = [] → ts = []) ∧ ns.length ≤ 1000 ∧ ∀ p kws, G p = none → CsOk kws → K (.ref p) (aup G p (.dK kws))
theorem ok_cs {f : Addr} {fd : FuncData} (F : Fun K "_law_costs" "_law_costs" sCs f fd) (B : Bl mg) (CK : Cal P w K mg base "_law_key" 1 ["term"] spKy) : FnOk P w K mg base CX0 2 f fd ["script", "terms"] (low ⟨P, w, K⟩ (spCs ⟨P, w, K⟩)) := by
  refine fnA_of F sc_cs (fun ws G Kc KE ⟨a, ns, t, ts, e, _⟩ => by rw [e]; rfl) fun cdv A outer s H E ws G Kc KE hr ⟨a, ns, t, ts, e, hS, hT, many, hne, hn1, kk⟩ => ?_
  subst e
  refine s_cons (s_set (i := 2) sc_cs.nd (q_dnew fun p hp => ?_))
  have Sx : ∀ o, Sub G (aup G p o) := fun _ => Sub.new hp
  refine s_cons (s_for PassesOwn.never rfl (i_range1 rfl B.range (q_len B.len (a_cons (qv 1 rfl (a_nil (fLen_ls (hT.new hp) ?_))))) rfl))
  rw [tW_length]
  refine ⟨by omega, by omega, ?_⟩
  refine ⟨fun i ρ' G' => ∃ (kws : List (Key × W)) (v1 v2 v3 : Option W), ρ' = [some (.ref a), some t, some (.ref p), v1, v2, v3] ∧ G' = aup G p (.dK kws) ∧ CsOk kws ∧ kws.length ≤ 2 * i, ⟨[], none, none, none, rfl, rfl, (fun k w e => by cases e), Nat.zero_le _⟩, fun _ _ _ _ _ => trivial, fun i x ρ' G' hx ⟨kws, v1, v2, v3, e1, e2, hC, kl⟩ => ?_, fun ρ' G' ⟨kws, v1, v2, v3, e1, e2, hC, kl⟩ => ?_⟩
  · obtain ⟨hi, rfl⟩ := rng0_item hx
    have hi : i < ts.length := by simpa using hi
    have tm : ts[i]? = some (tmAt ts i) := at_of (d := Tm.num 0) hi
    have hns : 0 < ns.length := by
      cases ns with
      | nil => rw [hne rfl] at hi; exact absurd hi (Nat.not_lt_zero _)
      | cons n ns => exact Nat.succ_pos _
    have nI : (0 : Int) < (ns.length : Int) := by omega
    subst e1 e2
    refine g_name (i := 3) sc_cs.nd ?_
    refine s_cons (s_set (i := 4) sc_cs.nd (q_ixS (qv 0 rfl (q_mod (qv 3 rfl (q_lenS B.len (a_cons (qv 0 rfl (a_nil ⟨a, ns, rfl, hS.sub (Sx _), ?_⟩)))))))))
    have hj : i % ns.length < ns.length := Nat.mod_lt _ hns
    refine ⟨nI, a, ns, i % ns.length, ns[i % ns.length], rfl, by rw [Int.natCast_emod], hS.sub (Sx _), List.getElem?_eq_getElem hj, ?_⟩
    generalize ns[i % ns.length] = cell
    refine s_cons (s_set (i := 5) sc_cs.nd (q_mod (q_mul (qv 4 rfl (q_int ⟨mulokR (by decide) (by decide), ?_⟩)))))
    refine q_int ⟨by decide, ?_⟩
    have m0 := Int.emod_nonneg (cell * 22695479) (show (4294967279 : Int) ≠ 0 by decide)
    generalize cell * 22695479 % 4294967279 = m at m0 ⊢
    refine s_cons (s_cut (P := fun ρ2 G2 => ∃ kws, ρ2 = [some (.ref a), some t, some (.ref p), some (.int i), some (.int cell), some (.int m)] ∧ G2 = aup G p (.dK kws) ∧ CsOk kws ∧ kws.length ≤ 2 * i + 1) ?_ ?_)
    · refine s_if (b_eq (u64 hr) (q_mod (qv 5 rfl (q_int ⟨by decide, ?_⟩))))
      refine q_int (ifB_dec (fun _ => ?_) (fun _ => s_nil ⟨kws, rfl, rfl, hC, by omega⟩))
      refine s_cons (s_asg (q_add (q_int (q_mod (q_fdiv (qv 5 rfl (q_int ⟨cdivw (by decide) (by decide), ?_⟩)))))))
      refine q_int ⟨by decide, ?_⟩
      refine g_dput (u64 hr) (qv 2 rfl (q_cal CK hr (a_cons (q_ix (qv 1 rfl (qv 3 rfl (fIx_ls (hT.sub (Sx _)) (tW_at tm) ?_)))))))
      refine a_nil ⟨_, _, rfl, kyW_tm _, ?_⟩
      refine ⟨kws, _, aup_same, rfl, Nat.lt_of_le_of_lt (show kws.length ≤ 1000 by omega) (by decide), ?_⟩
      rw [aup_aup]
      have := Int.emod_nonneg (m / 3) (show (9 : Int) ≠ 0 by decide)
      exact s_nil ⟨_, rfl, rfl, hC.put _ (by omega), by have := pk_len kws (.inr (ky (tmAt ts i))) (.int (1 + m / 3 % 9)); omega⟩
    rintro ρ2 G2 ⟨kws, rfl, rfl, hC, kl⟩
    refine s_cons (s_if (b_eq (u64 hr) (q_mod (qv 5 rfl (q_int ⟨by decide, ?_⟩)))))
    refine q_int (ifB_dec (fun _ => ?_) (fun _ => s_nil (s_nil ⟨kws, _, _, _, rfl, rfl, hC, by omega⟩)))
    refine s_cons (s_asg (q_add (q_int (q_mod (q_mul (qv 4 rfl (q_int ⟨mulokR (by decide) (by decide), ?_⟩)))))))
    refine q_pow (q_int (q_int ⟨⟨by decide, by decide, by decide⟩, ?_⟩))
    refine ⟨by decide, ?_⟩
    refine g_dput (u64 hr) (qv 2 rfl (q_cal CK hr (a_cons (q_ix (qv 1 rfl (qv 3 rfl (fIx_ls (hT.sub (Sx _)) (tW_at tm) ?_)))))))
    refine a_nil ⟨_, _, rfl, kyW_tm _, ?_⟩
    refine ⟨kws, _, aup_same, rfl, Nat.lt_of_le_of_lt (show kws.length ≤ 1000 by omega) (by decide), ?_⟩
    rw [aup_aup]
    have := Int.emod_nonneg (cell * 2654435761) (show ((10 : Int) ^ (12 : Int).toNat) ≠ 0 by decide)
    exact s_nil (s_nil ⟨_, _, _, _, rfl, rfl, hC.put _ (by omega), by have := pk_len kws (.inr (ky (tmAt ts i))) (.int (1 + cell * 2654435761 % (10 : Int) ^ (12 : Int).toNat)); omega⟩)
  · subst e1 e2
    exact s_cons (s_ret (qv 2 rfl ⟨_, Sub.refl, kk p kws hp hC⟩))
end
end SW
namespace SW
open PySem PySem.Spec L2 AL
def hdW : Tm → List W
  | .num n => [.str "num", .int n]
  | .name x => [.str "name", .str x]
  | .of w _ => [.str "of", .str w]
def tkey (ls : List Nat) (t : Tm) : W := .tup [.tup (hdW t), .tup (nW ((arms t).map (Lf ls)))]
theorem tkey_inj {ls : List Nat} {t u : Tm} (h : tkey ls t = tkey ls u) : mk ls t = mk ls u := by
  obtain ⟨n1, n2, n3⟩ := strs_ne
  unfold tkey at h
  cases t <;> cases u <;> simp only [hdW, W.tup.injEq, List.cons.injEq, W.str.injEq, W.int.injEq, and_true, reduceCtorEq, and_false, false_and] at h
  · rw [h.1.2]
  · rw [h.1.2]
  · exact absurd h.1.1 n3
  · exact absurd h.1.1 (Ne.symm n3)
  · have e := nW_inj h.2
    show Tm.of _ _ = Tm.of _ _
    rw [h.1.2]
    exact congrArg _ e
def scl (w : W) : Bool := match w with
  | .non => true
  | .int _ => true
  | _ => false
theorem kbls_scl : ∀ {ws : List W}, (∀ w ∈ ws, scl w = true) → kbls ws = true ∧ NestedKey.depthAll (nks ws) = 0
  | [], _ => ⟨rfl, rfl⟩
  | w :: ws, h => by
    obtain ⟨h1, h2⟩ := kbls_scl fun w hw => h w (List.mem_cons_of_mem _ hw)
    have h3 := h w List.mem_cons_self
    refine ⟨?_, ?_⟩
    · show (kbl w && kbls ws) = true
      rw [h1]
      cases w <;> first | rfl | (simp [scl] at h3)
    · show max (NestedKey.depth (nk w)) (NestedKey.depthAll (nks ws)) = 0
      rw [h2]
      cases w <;> first | rfl | (simp [scl] at h3)
theorem keyOk_two {s : Str} {v : W} {ws : List W} (hv : scl v = true ∨ ∃ x, v = .str x) (h : ∀ w ∈ ws, scl w = true) : keyOk (.tup [.tup [.str s, v], .tup ws]) = true := by
  obtain ⟨h1, h2⟩ := kbls_scl h
  have hv1 : kbl v = true ∧ NestedKey.depth (nk v) = 0 := by
    rcases hv with hv | ⟨x, rfl⟩
    · cases v <;> first | exact ⟨rfl, rfl⟩ | (simp [scl] at hv)
    · exact ⟨rfl, rfl⟩
  show (((true && (kbl v && true)) && (kbls ws && true)) && Nat.ble (max (max 0 (max (NestedKey.depth (nk v)) 0) + 1) (max (NestedKey.depthAll (nks ws) + 1) 0)) 7) = true
  rw [hv1.1, h1, hv1.2, h2]; rfl
theorem scl_nW {ks : List Nat} : ∀ w ∈ nW ks, scl w = true := fun w hw => by
  obtain ⟨k, _, rfl⟩ := List.mem_map.mp hw; rfl
theorem keyOk_tk (ls : List Nat) (t : Tm) : keyOk (tkey ls t) = true := by
  unfold tkey
  cases t with
  | num n => exact keyOk_two (.inl rfl) scl_nW
  | name x => exact keyOk_two (.inr ⟨x, rfl⟩) scl_nW
  | of w ks => exact keyOk_two (.inr ⟨w, rfl⟩) scl_nW
def TbV (tb : List (W × W)) : Prop := ∀ k w, lk tb k = some w → ∃ n : Nat, w = .int n
/-- the table of marks -/
structure TbOk (ts : List Tm) (ls : List Nat) (tb : List (W × W)) : Prop where
  v : TbV tb
  at' : ∀ k, k < ts.length → lk tb (tkey ls (tmAt ts k)) = some (.int (Lf ls k))
mutual
def clsT (tb : List (W × W)) : Tr → W
  | .num n => (lk tb (.tup [.tup [.str "num", .int n], .tup []])).getD .non
  | .name x => (lk tb (.tup [.tup [.str "name", .str x], .tup []])).getD .non
  | .of w xs => (lk tb (.tup [.tup [.str "of", .str w], .tup (clsTs tb xs)])).getD .non
def clsTs (tb : List (W × W)) : List Tr → List W
  | [] => []
  | x :: xs => clsT tb x :: clsTs tb xs
end
theorem clsTs_map (tb : List (W × W)) : ∀ xs, clsTs tb xs = xs.map (clsT tb)
  | [] => rfl
  | x :: xs => by rw [clsTs, clsTs_map tb xs]; rfl
theorem clsT_scl {tb : List (W × W)} (h : TbV tb) (u : Tr) : scl (clsT tb u) = true := by
  have gen : ∀ k, scl ((lk tb k).getD .non) = true := fun k => by
    cases e : lk tb k with
    | none => rfl
    | some w => obtain ⟨n, rfl⟩ := h _ _ e; rfl
  cases u with
  | num n => rw [clsT]; exact gen _
  | name x => rw [clsT]; exact gen _
  | of w xs => rw [clsT]; exact gen _
mutual
def sumT (kws : List (Key × W)) : Tr → Nat
  | .num _ => cstK kws "#"
  | .name _ => cstK kws "@"
  | .of w xs => cstK kws w + sumTs kws xs
def sumTs (kws : List (Key × W)) : List Tr → Nat
  | [] => 0
  | x :: xs => sumT kws x + sumTs kws xs
end
theorem sumTs_map (kws : List (Key × W)) : ∀ xs, sumTs kws xs = (xs.map (sumT kws)).sum
  | [] => rfl
  | x :: xs => by rw [sumTs, sumTs_map kws xs, List.map_cons, List.sum_cons]
/-- trees that are not deeper, not wide -/
inductive OkT : Nat → Tr → Prop where
  | num {d : Nat} (n : Int) : OkT (d + 1) (.num n)
  | name {d : Nat} (x : Str) : OkT (d + 1) (.name x)
  | of {d : Nat} (w : Str) {xs : List Tr} : xs.length ≤ 4 → (∀ x ∈ xs, OkT d x) → OkT (d + 1) (.of w xs)
theorem OkT.arms {d : Nat} {u : Tr} (h : OkT (d + 1) u) : (armsT u).length ≤ 4 ∧ ∀ x ∈ armsT u, OkT d x := by
  cases h with
  | num n => exact ⟨Nat.zero_le _, fun x h => by cases h⟩
  | name n => exact ⟨Nat.zero_le _, fun x h => by cases h⟩
  | of w h1 h2 => exact ⟨h1, h2⟩
section
variable {P : Program} {w : World} {K : PySem.W.Frag} {mg : Str → Option Value} {base : Heap}
abbrev sTb : Stmt := top 35
abbrev nTb : List Str := ["terms", "leads", "table", "k", "arm"]
theorem sc_tb : FnScope nTb ["terms", "leads"] (defScope sTb) := ⟨rfl, rfl, rfl, by decide +kernel, rfl, by decide +kernel, by decide +kernel⟩
def spTb : ASp := fun ws G K _ => ∃ (t l : W) (ts : List Tm) (ls : List Nat), ws = [t, l] ∧ LsA G t (tW ts) ∧ LsA G l (nW ls) ∧ LsOk ts ls ∧ (∀ i j, i < ts.length → j < ts.length → mkE ts ls i = mkE ts ls j → Lf ls i = Lf ls j) ∧ ∀ p tb, G p = none → TbOk ts ls tb → K (.ref p) (aup G p (.dN tb))
theorem hd_take (t : Tm) : ∀ xs, t.W = .tup xs → xs.take 2 = hdW t := fun xs h => by
  cases t <;> (cases h; rfl)
theorem ok_tb {f : Addr} {fd : FuncData} (F : Fun K "_law_table" "_law_table" sTb f fd) (B : Bl mg) (CA : Cal P w K mg base "_law_arms" 1 ["term"] spLa) : FnOk P w K mg base CX0 2 f fd ["terms", "leads"] (low ⟨P, w, K⟩ spTb) := by
  refine fnA_of F sc_tb (fun ws G Kc KE ⟨t, l, ts, ls, e, _⟩ => by rw [e]; rfl) fun cdv A outer s H E ws G Kc KE hr ⟨t, l, ts, ls, e, hT, hL, O, cg, kk⟩ => ?_
  subst e
  have many := O.T.many
  refine s_cons (s_set (i := 2) sc_tb.nd (q_dnewN fun p hp => ?_))
  have Sx : ∀ o, Sub G (aup G p o) := fun _ => Sub.new hp
  refine s_cons (s_for PassesOwn.never rfl (i_range1 rfl B.range (q_len B.len (a_cons (qv 0 rfl (a_nil (fLen_ls (hT.new hp) ?_))))) rfl))
  rw [tW_length]
  refine ⟨by omega, by omega, ?_⟩
  refine ⟨fun i ρ' G' => ∃ (tb : List (W × W)) (v1 v2 : Option W), ρ' = [some t, some l, some (.ref p), v1, v2] ∧ G' = aup G p (.dN tb) ∧ TbV tb ∧ tb.length ≤ i ∧ ∀ k, k < i → lk tb (tkey ls (tmAt ts k)) = some (.int (Lf ls k)), ⟨[], none, none, rfl, rfl, (fun k w e => by cases e), Nat.zero_le _, fun k h => absurd h (Nat.not_lt_zero _)⟩, fun _ _ _ _ _ => trivial, fun i x ρ' G' hx ⟨tb, v1, v2, e1, e2, hV, tl, hk⟩ => ?_, fun ρ' G' ⟨tb, v1, v2, e1, e2, hV, tl, hk⟩ => ?_⟩
  · obtain ⟨hi, rfl⟩ := rng0_item hx
    have hi : i < ts.length := by simpa using hi
    have tm : ts[i]? = some (tmAt ts i) := at_of (d := Tm.num 0) hi
    have hil : i < ls.length := by rw [O.g.len]; exact hi
    obtain ⟨ar1, ar2⟩ := mk_arms O.T (ls := ls) O.g.len tm
    subst e1 e2
    refine g_name (i := 3) sc_tb.nd ?_
    refine s_cons (s_asg (q_ix (qv 1 rfl (qv 3 rfl (fIx_ls (hL.sub (Sx _)) (nW_at hil) ?_)))))
    refine g_dputN (u9 hr) (qv 2 rfl (q_tup (a_cons (q_sl (q_ix (qv 0 rfl (qv 3 rfl (fIx_ls (hT.sub (Sx _)) (tW_at tm) ?_))))))))
    refine o_non (o_some (q_int ?_))
    obtain ⟨xs, hxs⟩ : ∃ xs, (tmAt ts i).W = .tup xs := by cases tmAt ts i <;> exact ⟨_, rfl⟩
    have hh := hd_take _ xs hxs
    rw [hxs]
    have hcut : cutW xs none (some 2) = hdW (tmAt ts i) := by rw [← hh]; exact cutW_to 2
    dsimp only [onI, fSl]
    rw [hcut]
    refine a_cons (q_tuple B.tuple (a_cons (q_v (q_lc sc_tb.nd (blkOk_by (N := nTb) (sc := defScope sTb) (own := [("arm", 4)]) (by decide +kernel)) (i_list (q_cal CA hr (a_cons (q_ix (qv 0 rfl (qv 3 rfl (fIx_ls (hT.sub (Sx _)) (tW_at tm) ?_)))))))))))
    refine a_nil ⟨_, nW (arms (tmAt ts i)), rfl, arW_tm _, ?_⟩
    refine ⟨nW (arms (tmAt ts i)), rfl, ?_⟩
    refine lk_mapZ (zs := arms (tmAt ts i)) (fun (k : Nat) => W.int k) (fun k => W.int (Lf ls k : Nat)) sc_tb.nd (by omega) (fun _ _ _ => rfl) (fun k hk D ws hD s0 H0 C cl fp => ?_) (fun D hD => ?_)
    · have := ar1 k hk
      exact q_ix (qv 1 rfl (qv 4 rfl (fIx_ls ((hL.sub (Sx _)).new hD) (nW_at (by omega)) ⟨rfl, rfl⟩)))
    have em : (arms (tmAt ts i)).map (fun k => W.int (Lf ls k : Nat)) = nW ((arms (tmAt ts i)).map (Lf ls)) := by simp [nW]
    rw [em]
    refine frz_new hD (a_nil (a_nil ⟨tb, aup_same, keyOk_tk ls _, Nat.lt_of_le_of_lt (show tb.length ≤ 400 by omega) (by decide), ?_⟩))
    rw [aup_aup]
    refine s_nil ⟨_, _, _, rfl, rfl, fun k w e => ?_, ?_, fun k hk' => ?_⟩
    · rw [lk_pk] at e
      split at e
      · cases e; exact ⟨_, rfl⟩
      · exact hV k w e
    · have := pk_len tb (tkey ls (tmAt ts i)) (.int (Lf ls i : Nat))
      exact Nat.le_trans this (Nat.succ_le_succ tl)
    · show lk (pk tb (tkey ls (tmAt ts i)) _) _ = _
      rw [lk_pk]
      split
      · rename_i e
        rw [cg k i (by omega) hi (tkey_inj e)]
      · rename_i e
        exact hk k (by
          rcases Nat.lt_succ_iff_lt_or_eq.mp hk' with h | h
          · exact h
          · rw [h] at e; exact absurd rfl e)
  · rw [rngW_length] at hk
    subst e1 e2
    have e0 : ((ts.length : Nat) : Int).toNat = ts.length := Int.toNat_natCast _
    rw [e0] at hk
    exact s_cons (s_ret (qv 2 rfl ⟨_, Sub.refl, kk p tb hp ⟨hV, hk⟩⟩))
end
end SW
namespace SW
open PySem PySem.Spec L2 AL
def hdT : Tr → List W
  | .num n => [.str "num", .int n]
  | .name x => [.str "name", .str x]
  | .of w _ => [.str "of", .str w]
theorem hdT_take (t : Tr) : ∃ xs, t.W = .tup xs ∧ xs.take 2 = hdT t := by
  cases t with
  | num n => exact ⟨_, by rw [Tr.W]; rfl, rfl⟩
  | name n => exact ⟨_, by rw [Tr.W]; rfl, rfl⟩
  | of w ks => exact ⟨_, by rw [Tr.W], rfl⟩
theorem clsT_eq (tb : List (W × W)) (t : Tr) : clsT tb t = (lk tb (.tup [.tup (hdT t), .tup (clsTs tb (armsT t))])).getD .non := by
  cases t <;> (rw [clsT]; rfl)
theorem sumT_eq (kws : List (Key × W)) (t : Tr) : sumT kws t = cstK kws (kyT t) + sumTs kws (armsT t) := by
  cases t <;> (rw [sumT]; rfl)
theorem keyOk_tr {tb : List (W × W)} (h : TbV tb) (t : Tr) : keyOk (.tup [.tup (hdT t), .tup (clsTs tb (armsT t))]) = true := by
  have hs : ∀ w ∈ clsTs tb (armsT t), scl w = true := fun w hw => by
    rw [clsTs_map] at hw
    obtain ⟨u, _, rfl⟩ := List.mem_map.mp hw
    exact clsT_scl h u
  cases t with
  | num n => exact keyOk_two (.inl rfl) hs
  | name x => exact keyOk_two (.inr ⟨x, rfl⟩) hs
  | of w ks => exact keyOk_two (.inr ⟨w, rfl⟩) hs
section
variable {P : Program} {w : World} {K : PySem.W.Frag} {mg : Str → Option Value} {base : Heap}
abbrev sCl : Stmt := top 36
abbrev nCl : List Str := ["tree", "table", "below", "arm"]
theorem sc_cl : FnScope nCl ["tree", "table"] (defScope sCl) := ⟨rfl, rfl, rfl, by decide +kernel, rfl, by decide +kernel, by decide +kernel⟩
def spCl (d : Nat) : ASp := fun ws G K _ => ∃ (u : Tr) (a : Addr) (tb : List (W × W)), ws = [u.W, .ref a] ∧ DnA G (.ref a) tb ∧ TbV tb ∧ OkT d u ∧ K (clsT tb u) G
theorem ok_cl {f : Addr} {fd : FuncData} (F : Fun K "_law_class" "_law_class" sCl f fd) (B : Bl mg) (hm : mg "_law_class" = some (.ref f)) (hk : PySem.W.keepIn K (.ref f) = true) (hb : Binds K fd ["tree", "table"] []) : ∀ d, FnOk P w K mg base CX0 (d + 1) f fd ["tree", "table"] (low ⟨P, w, K⟩ (spCl d)) := by
  intro d
  induction d with
  | zero =>
    exact fnA_of F sc_cl (fun ws G Kc KE ⟨u, a, tb, e, _⟩ => by rw [e]; rfl) fun cdv A outer s H E ws G Kc KE hr ⟨u, a, tb, e, hB, hV, hO, kk⟩ => by cases hO
  | succ d ih =>
    have CR : Cal P w K mg base "_law_class" (d + 1) ["tree", "table"] (spCl d) := ⟨⟨f, fd, ih, hm, hk, hb⟩⟩
    refine fnA_of F sc_cl (fun ws G Kc KE ⟨u, a, tb, e, _⟩ => by rw [e]; rfl) fun cdv A outer s H E ws G Kc KE hr ⟨u, a, tb, e, hB, hV, hO, kk⟩ => ?_
    subst e
    obtain ⟨ar1, ar2⟩ := hO.arms
    obtain ⟨xs, hxs, hx2⟩ := hdT_take u
    refine s_cons (s_set (i := 2) sc_cl.nd (q_lst (a_nil fun p hp => ?_)))
    refine s_frz 2 rfl aup_same ?_
    rw [adel_aup hp]
    refine s_cons (s_cut (P := fun ρ2 G2 => ∃ v z, ρ2 = [some u.W, some (.ref a), some v, z] ∧ Sub G G2 ∧ LsA G2 v (clsTs tb (armsT u))) ?_ ?_)
    · refine s_if (b_eq (u64 hr) (q_ix (qv 0 rfl (q_int ?_))))
      have hh := arW_tr u
      generalize armsT u = us at ar1 ar2 hh ⊢
      rcases hh with ⟨n, e, e2⟩ | ⟨n, e, e2⟩ | ⟨r, e⟩
      · have : us = [] := List.map_eq_nil_iff.mp e2
        subst this
        rw [e]
        exact q_str (ifB_F (by decide +kernel) (s_nil ⟨_, _, rfl, Sub.refl, rfl⟩))
      · have : us = [] := List.map_eq_nil_iff.mp e2
        subst this
        rw [e]
        exact q_str (ifB_F (by decide +kernel) (s_nil ⟨_, _, rfl, Sub.refl, rfl⟩))
      · rw [e]
        refine q_str (ifB_T (by decide +kernel) ?_)
        refine s_cons (s_setLc sc_cl.nd (blkOk_by (N := nCl) (sc := defScope sCl) (own := [("arm", 3)]) (by decide +kernel)) (i_tup (q_ix (qv 0 rfl (q_int ?_)))) (i := 2))
        refine lk_mapZ (zs := us) Tr.W (clsT tb) sc_cl.nd (by omega) (fun _ _ _ => trivial) (fun z hz D ws hD s0 H0 C cl fp => ?_) (fun D hD => ?_)
        · exact q_cal CR hr (a_cons (qv 3 rfl (a_cons (qv 1 rfl (a_nil ⟨z, a, tb, rfl, hB.new hD, hV, ar2 z hz, rfl, rfl⟩)))))
        · exact s_nil ⟨.ref D, none, rfl, Sub.new hD, by rw [clsTs_map]; exact aup_same⟩
    · rintro ρ2 G2 ⟨v, z, rfl, S2, hv⟩
      refine s_cons (s_ret (q_getN1 (u64 hr) (qv 1 rfl ⟨a, tb, rfl, hB.sub S2, ?_⟩)))
      rw [hxs]
      refine q_tup (a_cons (q_sl (qv 0 rfl (o_non (o_some (q_int ?_))))))
      have hcut : cutW xs none (some 2) = hdT u := by rw [← hx2]; exact cutW_to 2
      dsimp only [onI, fSl]
      rw [hcut]
      refine a_cons (q_tuple B.tuple (a_cons (qv 2 rfl (a_nil (fTuple_ls hv ?_)))))
      refine a_nil ⟨tb, hB.sub S2, keyOk_tr hV u, ?_⟩
      rw [← clsT_eq]
      exact ⟨G, S2, kk⟩
/-! ### _law_sum -/
abbrev sSu : Stmt := top 37
abbrev nSu : List Str := ["tree", "costs", "arm"]
theorem sc_su : FnScope nSu ["tree", "costs"] (defScope sSu) := ⟨rfl, rfl, rfl, by decide +kernel, rfl, by decide +kernel, by decide +kernel⟩
def spSu (d : Nat) : ASp := fun ws G K _ => ∃ (u : Tr) (c : W) (kws : List (Key × W)), ws = [u.W, c] ∧ DkA G c kws ∧ CsOk kws ∧ OkT d u ∧ K (.int (sumT kws u : Nat)) G
theorem ok_su {f : Addr} {fd : FuncData} (F : Fun K "_law_sum" "_law_sum" sSu f fd) (B : Bl mg) (CC : Cal P w K mg base "_law_cost" 2 ["term", "costs"] spLc) (CA : Cal P w K mg base "_law_arms" 1 ["term"] spLa) (hm : mg "_law_sum" = some (.ref f)) (hk : PySem.W.keepIn K (.ref f) = true) (hb : Binds K fd ["tree", "costs"] []) : ∀ d, FnOk P w K mg base CX0 (d + 3) f fd ["tree", "costs"] (low ⟨P, w, K⟩ (spSu d)) := by
  intro d
  induction d with
  | zero =>
    exact fnA_of F sc_su (fun ws G Kc KE ⟨u, a, tb, e, _⟩ => by rw [e]; rfl) fun cdv A outer s H E ws G Kc KE hr ⟨u, a, tb, e, hB, hV, hO, kk⟩ => by cases hO
  | succ d ih =>
    have CR : Cal P w K mg base "_law_sum" (d + 3) ["tree", "costs"] (spSu d) := ⟨⟨f, fd, ih, hm, hk, hb⟩⟩
    refine fnA_of F sc_su (fun ws G Kc KE ⟨u, a, tb, e, _⟩ => by rw [e]; rfl) fun cdv A outer s H E ws G Kc KE hr ⟨u, c, kws, e, hD, hC, hO, kk⟩ => ?_
    subst e
    have hr1 : Room 1 _ := hr.mono (by omega)
    have hr2 : Room 2 _ := hr.mono (by omega)
    obtain ⟨ar1, ar2⟩ := hO.arms
    refine s_cons (s_ret (q_add (q_cal CC hr2 (a_cons (qv 0 rfl (a_cons (qv 1 rfl (a_nil ⟨_, _, _, _, rfl, kyW_tr u, hD, hC, ?_⟩))))))))
    refine q_sum B.sum (a_cons (q_v (q_lc sc_su.nd (blkOk_by (N := nSu) (sc := defScope sSu) (own := [("arm", 2)]) (by decide +kernel)) (i_list (q_cal CA hr1 (a_cons (qv 0 rfl (a_nil ⟨_, _, rfl, arW_tr u, ?_⟩))))))))
    refine ⟨_, rfl, ?_⟩
    refine lk_mapZ (zs := armsT u) Tr.W (fun x => W.int (sumT kws x : Nat)) sc_su.nd (by omega) (fun _ _ _ => rfl) (fun z hz D ws hD' s0 H0 C cl fp => ?_) (fun D hD' => ?_)
    · exact q_cal CR hr (a_cons (qv 2 rfl (a_cons (qv 1 rfl (a_nil ⟨z, c, kws, rfl, hD.new hD', hC, ar2 z hz, rfl, rfl⟩)))))
    · refine frz_new hD' (a_nil ⟨(armsT u).map fun x => ((sumT kws x : Nat) : Int), by rw [List.map_map]; rfl, ?_⟩)
      have es : ((armsT u).map fun x => ((sumT kws x : Nat) : Int)).sum = ((sumTs kws (armsT u) : Nat) : Int) := by
        rw [sumTs_map, ← sum_cast, List.map_map]; rfl
      rw [es]
      refine ⟨G, Sub.refl, ?_⟩
      rw [sumT_eq, Int.natCast_add] at kk
      exact kk
end
end SW
namespace SW
open PySem PySem.Spec L2 AL
mutual
theorem Tr.W_inj : ∀ {t u : Tr}, t.W = u.W → t = u
  | .num n, .num m, h => by
    rw [Tr.W, Tr.W] at h
    have : W.int n = W.int m := (List.cons.inj (List.cons.inj (W.tup.inj h)).2).1
    rw [W.int.inj this]
  | .name n, .name m, h => by
    rw [Tr.W, Tr.W] at h
    have : W.str n = W.str m := (List.cons.inj (List.cons.inj (W.tup.inj h)).2).1
    rw [W.str.inj this]
  | .of w xs, .of v ys, h => by
    rw [Tr.W, Tr.W] at h
    have h1 := (List.cons.inj (W.tup.inj h)).2
    have : W.str w = W.str v := (List.cons.inj h1).1
    rw [W.str.inj this, Tr.Ws_inj (W.tup.inj (List.cons.inj (List.cons.inj h1).2).1)]
  | .num n, .name m, h => by
    rw [Tr.W, Tr.W] at h
    exact absurd (W.str.inj (List.cons.inj (W.tup.inj h)).1) strs_ne.1
  | .name n, .num m, h => by
    rw [Tr.W, Tr.W] at h
    exact absurd (W.str.inj (List.cons.inj (W.tup.inj h)).1) (Ne.symm strs_ne.1)
  | .num n, .of w ys, h => by
    rw [Tr.W, Tr.W] at h
    exact absurd (W.str.inj (List.cons.inj (W.tup.inj h)).1) strs_ne.2.1
  | .of w ys, .num n, h => by
    rw [Tr.W, Tr.W] at h
    exact absurd (W.str.inj (List.cons.inj (W.tup.inj h)).1) (Ne.symm strs_ne.2.1)
  | .name n, .of w ys, h => by
    rw [Tr.W, Tr.W] at h
    exact absurd (W.str.inj (List.cons.inj (W.tup.inj h)).1) strs_ne.2.2
  | .of w ys, .name n, h => by
    rw [Tr.W, Tr.W] at h
    exact absurd (W.str.inj (List.cons.inj (W.tup.inj h)).1) (Ne.symm strs_ne.2.2)
theorem Tr.Ws_inj : ∀ {ts us : List Tr}, Tr.Ws ts = Tr.Ws us → ts = us
  | [], [], _ => rfl
  | [], u :: us, h => by rw [Tr.Ws, Tr.Ws] at h; cases h
  | t :: ts, [], h => by rw [Tr.Ws, Tr.Ws] at h; cases h
  | t :: ts, u :: us, h => by
    rw [Tr.Ws, Tr.Ws] at h
    obtain ⟨h1, h2⟩ := List.cons.inj h
    rw [Tr.W_inj h1, Tr.Ws_inj h2]
end
/-- along a choice, by what is needed first -/
theorem ord_ind {nx : Nat → List Nat} {ord : List Nat} (t : Top nx ord) {Q : Nat → Nat → Prop} (h : ∀ i x, ord[i]? = some x → (∀ m ∈ nx x, ∃ j, j < i ∧ ord[j]? = some m ∧ Q j m) → Q i x) : ∀ i x, ord[i]? = some x → Q i x := by
  intro i
  induction i using Nat.strongRecOn with
  | _ i ih =>
    intro x hx
    refine h i x hx fun m hm => ?_
    obtain ⟨j, hj, e⟩ := List.getElem_of_mem (t.ahead i x hx m hm)
    rw [List.length_take] at hj
    rw [List.getElem_take] at e
    have e2 : ord[j]? = some m := by rw [← e]; exact List.getElem?_eq_getElem (by omega)
    exact ⟨j, by omega, e2, ih j (by omega) m e2⟩
theorem ord_indx {nx : Nat → List Nat} {ord : List Nat} (t : Top nx ord) {Q : Nat → Prop} (h : ∀ x ∈ ord, (∀ m ∈ nx x, m ∈ ord ∧ Q m) → Q x) : ∀ x ∈ ord, Q x := fun x hx => by
  obtain ⟨i, hi, e⟩ := List.getElem_of_mem hx
  exact ord_ind t (Q := fun _ x => Q x) (fun i x hx ih => h x (List.mem_of_getElem? hx) fun m hm => let ⟨j, _, h1, h2⟩ := ih m hm; ⟨List.mem_of_getElem? h1, h2⟩) i x (by rw [← e]; exact List.getElem?_eq_getElem hi)
/-- trees along a choice -/
structure OnT (nx : Nat → List Nat) (T : Nat → Tr) (ord : List Nat) (lead : Nat) : Prop where
  od : Ord nx lead ord
  arms : ∀ x ∈ ord, armsT (T x) = (nx x).map T
  few : ∀ x ∈ ord, (nx x).length ≤ 4
  inj : ∀ x ∈ ord, ∀ y ∈ ord, (T x).W = (T y).W → x = y
  ok : ∀ x ∈ ord, okW (T x).W = true ∧ dpW (T x).W ≤ 60
theorem Ord.mem {nx : Nat → List Nat} {lead : Nat} {ord : List Nat} (o : Ord nx lead ord) : lead ∈ ord := by
  obtain ⟨h0, h⟩ := last_at o.last
  exact List.mem_of_getElem? h
theorem Ord.pos {nx : Nat → List Nat} {lead : Nat} {ord : List Nat} (o : Ord nx lead ord) : 0 < ord.length := (last_at o.last).1
/-- what the stack says -/
structure Stk (nx : Nat → List Nat) (ord : List Nat) (lead : Nat) (sn wl : List Nat) : Prop where
  nd : sn.Nodup
  s : ∀ x ∈ sn, x ∈ ord
  w : ∀ x ∈ wl, x ∈ ord
  cl : ∀ x ∈ sn, ∀ m ∈ nx x, m ∈ sn ∨ m ∈ wl
  hd : lead ∈ sn ∨ lead ∈ wl
theorem Stk.done {nx : Nat → List Nat} {ord : List Nat} {lead : Nat} {sn : List Nat} (o : Ord nx lead ord) (h : Stk nx ord lead sn []) : sn.Perm ord := by
  refine (List.perm_ext_iff_of_nodup h.nd o.top.nd).mpr fun x => ⟨h.s x, fun hx => ?_⟩
  have := o.rch x hx
  clear hx
  induction this with
  | refl =>
    rcases h.hd with h | h
    · exact h
    · cases h
  | step _ hm ih =>
    rcases h.cl _ ih _ hm with h | h
    · exact h
    · cases h
theorem Stk.skip {nx : Nat → List Nat} {ord : List Nat} {lead y : Nat} {sn wl : List Nat} (h : Stk nx ord lead sn (wl ++ [y])) (hy : y ∈ sn) : Stk nx ord lead sn wl := by
  have go : ∀ m, m ∈ sn ∨ m ∈ wl ++ [y] → m ∈ sn ∨ m ∈ wl := fun m hm => by
    rcases hm with hm | hm
    · exact .inl hm
    · rcases List.mem_append.mp hm with hm | hm
      · exact .inr hm
      · simp at hm; subst hm; exact .inl hy
  exact ⟨h.nd, h.s, fun x hx => h.w x (List.mem_append_left _ hx), fun x hx m hm => go m (h.cl x hx m hm), go _ h.hd⟩
theorem Stk.take {nx : Nat → List Nat} {ord : List Nat} {lead y : Nat} {sn wl : List Nat} (t : Top nx ord) (h : Stk nx ord lead sn (wl ++ [y])) (hy : y ∉ sn) : Stk nx ord lead (sn ++ [y]) (wl ++ nx y) := by
  have yo : y ∈ ord := h.w y (List.mem_append_right _ (by simp))
  have go : ∀ m, m ∈ sn ∨ m ∈ wl ++ [y] → m ∈ sn ++ [y] ∨ m ∈ wl ++ nx y := fun m hm => by
    rcases hm with hm | hm
    · exact .inl (List.mem_append_left _ hm)
    · rcases List.mem_append.mp hm with hm | hm
      · exact .inr (List.mem_append_left _ hm)
      · exact .inl (List.mem_append_right _ hm)
  refine ⟨List.nodup_append.mpr ⟨h.nd, by simp, fun a ha b hb e => by simp at hb; subst hb; subst e; exact hy ha⟩, fun x hx => ?_, fun x hx => ?_, fun x hx m hm => ?_, go _ h.hd⟩
  · rcases List.mem_append.mp hx with hx | hx
    · exact h.s x hx
    · simp at hx; subst hx; exact yo
  · rcases List.mem_append.mp hx with hx | hx
    · exact h.w x (List.mem_append_left _ hx)
    · exact t.sub yo hx
  · rcases List.mem_append.mp hx with hx | hx
    · exact go m (h.cl x hx m hm)
    · simp at hx; subst hx; exact .inr (List.mem_append_right _ hm)
theorem Stk.lt {nx : Nat → List Nat} {ord : List Nat} {lead y : Nat} {sn wl : List Nat} (h : Stk nx ord lead sn wl) (hy : y ∈ ord) (n : y ∉ sn) : sn.length < ord.length := by
  have := nodup_sub_len (a := y :: sn) (b := ord) (List.nodup_cons.mpr ⟨n, h.nd⟩) fun z hz => by
    rcases List.mem_cons.mp hz with e | hz
    · rw [e]; exact hy
    · exact h.s z hz
  rw [List.length_cons] at this; omega
/-- the same, told of what falls: the sum over a stack stays below -/
theorem sum_perm {f : Nat → Nat} {a b : List Nat} (h : a.Perm b) : (a.map f).sum = (b.map f).sum := (h.map f).sum_nat
abbrev trW (T : Nat → Tr) (xs : List Nat) : List W := xs.map fun x => (T x).W
theorem okWs_tr {T : Nat → Tr} : ∀ {xs : List Nat}, (∀ x ∈ xs, okW (T x).W = true ∧ dpW (T x).W ≤ 60) → okWs (trW T xs) = true ∧ dpWs (trW T xs) ≤ 60
  | [], _ => ⟨rfl, Nat.zero_le _⟩
  | x :: xs, h => by
    obtain ⟨h1, h2⟩ := okWs_tr (xs := xs) fun y hy => h y (List.mem_cons_of_mem _ hy)
    obtain ⟨h3, h4⟩ := h x List.mem_cons_self
    refine ⟨?_, Nat.max_le.mpr ⟨h4, h2⟩⟩
    show (okW _ && okWs (trW T xs)) = true
    rw [h1, h3]; rfl
theorem any_tr {T : Nat → Tr} {ord : List Nat} {y : Nat} (inj : ∀ x ∈ ord, ∀ y ∈ ord, (T x).W = (T y).W → x = y) (hy : y ∈ ord) : ∀ {xs : List Nat}, (∀ x ∈ xs, x ∈ ord) → ((trW T xs).any fun z => eqW z (T y).W) = decide (y ∈ xs)
  | [], _ => by simp [trW]
  | x :: xs, h => by
    show (eqW (T x).W (T y).W || (trW T xs).any _) = _
    rw [any_tr inj hy fun z hz => h z (List.mem_cons_of_mem _ hz)]
    by_cases e : x = y
    · subst e; rw [eqW_self]; simp
    · have : eqW (T x).W (T y).W = false := by
        cases h2 : eqW (T x).W (T y).W with
        | false => rfl
        | true => exact absurd (inj x (h x List.mem_cons_self) y hy (eq_of_eqW _ _ h2)) e
      rw [this]
      have e2 : ¬ y = x := fun z => e z.symm
      simp [e2]
theorem sub_aup {G G' : AH} {p : Addr} {o : AO} (s : Sub G G') (h : G p = none) : Sub G (aup G' p o) := fun q o e => by rw [aup_ne (ane_none e h)]; exact s q o e
section
variable {P : Program} {w : World} {K : PySem.W.Frag} {mg : Str → Option Value} {base : Heap}
abbrev sOn : Stmt := top 38
abbrev nOn : List Str := ["tree", "costs", "wanted", "seen", "price", "part"]
theorem sc_on : FnScope nOn ["tree", "costs"] (defScope sOn) := ⟨rfl, rfl, rfl, by decide +kernel, rfl, by decide +kernel, by decide +kernel⟩
def onS (kws : List (Key × W)) (T : Nat → Tr) (xs : List Nat) : Nat := (xs.map fun x => cstK kws (kyT (T x))).sum
def spOn : ASp := fun ws G K _ => ∃ (d : W) (kws : List (Key × W)) (nx : Nat → List Nat) (T : Nat → Tr) (ord : List Nat) (lead : Nat), ws = [(T lead).W, d] ∧ DkA G d kws ∧ CsOk kws ∧ OnT nx T ord lead ∧ ord.length ≤ 400 ∧ K (.int (onS kws T ord : Nat)) G
theorem ok_on {f : Addr} {fd : FuncData} (F : Fun K "_law_once" "_law_once" sOn f fd) (B : Bl mg) (CC : Cal P w K mg base "_law_cost" 2 ["term", "costs"] spLc) (CA : Cal P w K mg base "_law_arms" 1 ["term"] spLa) : FnOk P w K mg base CX0 3 f fd ["tree", "costs"] (low ⟨P, w, K⟩ spOn) := by
  refine fnA_of F sc_on (fun ws G Kc KE ⟨d, kws, nx, T, ord, lead, e, _⟩ => by rw [e]; rfl) fun cdv A outer s H E ws G Kc KE hr ⟨d, kws, nx, T, ord, lead, e, hD, hC, O, many, kk⟩ => ?_
  subst e
  have hr1 : Room 1 _ := hr.mono (by decide)
  have lo := O.od.mem
  refine s_cons (s_set (i := 2) sc_on.nd (q_lst (a_cons (qv 0 rfl (a_nil fun wp hwp => ?_)))))
  refine s_cons (s_set (i := 3) sc_on.nd (q_lst (a_nil fun sp hsp => ?_)))
  obtain ⟨hsp0, hsw⟩ := aup_free hsp
  refine s_cons (s_set (i := 4) sc_on.nd (q_int ?_))
  let Pw : Nat → AS → AH → Prop := fun m ρ' G' => ∃ (wp sp : Addr) (sn wl : List Nat) (v : Option W), ρ' = [some (T lead).W, some d, some (.ref wp), some (.ref sp), some (.int (onS kws T sn : Nat)), v] ∧ Sub G G' ∧ G' wp = some (.lst (trW T wl)) ∧ G' sp = some (.lst (trW T sn)) ∧ wp ≠ sp ∧ G wp = none ∧ G sp = none ∧ Stk nx ord lead sn wl ∧ m = (ord.length - sn.length) * 5 + wl.length ∧ wl.length ≤ 4 * sn.length + 1
  refine s_cons (s_whileN PassesOwn.never Pw _ ⟨wp, sp, [], [lead], none, rfl, sub2 hwp hsp0, aup_old hsw.symm aup_same, aup_same, hsw.symm, hwp, hsp0, ⟨List.nodup_nil, (fun x h => by cases h), (fun x h => by simp at h; subst h; exact lo), (fun x h => by cases h), .inr (by simp)⟩, rfl, by simp⟩ ?_)
  rintro m ρ0 G0 ⟨wp, sp, sn, wl, v, e1, S0, hw, hs, hne, w0, s0, ST, em, wlen⟩
  subst e1
  refine b_gt (q_len B.len (a_cons (qv 2 rfl (a_nil ⟨_, hw, ?_⟩))))
  refine q_int ?_
  rw [List.length_map]
  rcases List.eq_nil_or_concat wl with e | ⟨wl', y, e⟩
  · subst e
    refine ifB_dec (fun h => absurd h (by decide)) (fun _ => ?_)
    have pm := ST.done O.od
    have es : onS kws T sn = onS kws T ord := sum_perm pm
    rw [es]
    exact s_cons (s_ret (qv 4 rfl ⟨G, S0, kk⟩))
  · rw [List.concat_eq_append] at e
    subst e
    have yo : y ∈ ord := ST.w y (List.mem_append_right _ (by simp))
    refine ifB_dec (fun _ => ?_) (fun h => absurd (show (0 : Int) < ((wl' ++ [y]).length : Nat) by rw [List.length_append, List.length_singleton]; omega) h)
    have el : trW T (wl' ++ [y]) = trW T wl' ++ [(T y).W] := by simp [trW]
    refine s_cons (s_set (i := 5) sc_on.nd (q_pop (qv 2 rfl ⟨wp, _, rfl, hw, _, (T y).W, hw, ?_, ?_⟩)))
    · rw [el, List.length_append, List.length_singleton, Nat.add_sub_cancel, List.getElem?_append_right (Nat.le_refl _), Nat.sub_self]; rfl
    rw [el, List.dropLast_concat]
    have hs1 : aup G0 wp (.lst (trW T wl')) sp = some (.lst (trW T sn)) := by rw [aup_ne hne.symm]; exact hs
    have S1 : Sub G (aup G0 wp (.lst (trW T wl'))) := sub_aup S0 w0
    have hw1 : aup G0 wp (.lst (trW T wl')) wp = some (.lst (trW T wl')) := aup_same
    generalize aup G0 wp (.lst (trW T wl')) = G1 at hs1 S1 hw1 ⊢
    have sok := okWs_tr (T := T) (xs := sn) fun x hx => O.ok x (ST.s x hx)
    have yok := O.ok y yo
    rw [List.length_append, List.length_singleton] at em wlen
    refine s_cons (s_if (b_nin (u65 hr) (qv 5 rfl (qv 3 rfl (fIn_ok (xs := trW T sn) hs1 ?_ ?_)))))
    · rw [yok.1, sok.1, Bool.true_and, Bool.true_and, Bool.and_eq_true]
      exact ⟨Nat.ble_eq_true_of_le yok.2, Nat.ble_eq_true_of_le sok.2⟩
    rw [any_tr O.inj yo ST.s]
    refine ifB_ndec (fun hn' => ?_) (fun hin => ?_)
    · have slt := ST.lt yo hn'
      refine s_cons (s_expr (q_append (qv 3 rfl ⟨sp, _, rfl, hs1, ?_⟩)))
      refine a_cons (qv 5 rfl (a_nil ⟨_, hs1, ?_, ?_⟩))
      · rw [List.length_map]; exact Nat.lt_of_lt_of_le slt (Nat.le_trans many (by decide))
      have es : trW T sn ++ [(T y).W] = trW T (sn ++ [y]) := by simp [trW]
      rw [es]
      have S2 : Sub G (aup G1 sp (.lst (trW T (sn ++ [y])))) := sub_aup S1 s0
      have hw2 : aup G1 sp (.lst (trW T (sn ++ [y]))) wp = some (.lst (trW T wl')) := by rw [aup_ne hne]; exact hw1
      have hs2 : aup G1 sp (.lst (trW T (sn ++ [y]))) sp = some (.lst (trW T (sn ++ [y]))) := aup_same
      generalize aup G1 sp (.lst (trW T (sn ++ [y]))) = G2 at S2 hw2 hs2 ⊢
      refine s_cons (s_set (i := 4) sc_on.nd (q_add (qv 4 rfl (q_cal CC hr (a_cons (qv 5 rfl (a_cons (qv 1 rfl (a_nil ⟨_, _, d, kws, rfl, kyW_tr (T y), hD.sub S2, hC, ?_⟩)))))))))
      have ep : ((onS kws T sn : Nat) : Int) + ((cstK kws (kyT (T y)) : Nat) : Int) = ((onS kws T (sn ++ [y]) : Nat) : Int) := by
        unfold onS
        rw [List.map_append, List.sum_append]
        show _ = ((_ + (cstK kws (kyT (T y)) + 0) : Nat) : Int)
        omega
      dsimp only [fAdd]
      rw [ep]
      have n4 := O.few y yo
      refine s_cons (s_set (i := 2) sc_on.nd (q_add (qv 2 rfl (q_cal CA hr1 (a_cons (qv 5 rfl (a_nil ⟨_, _, rfl, arW_tr (T y), ?_⟩)))))))
      have ea : (armsT (T y)).map Tr.W = trW T (nx y) := by rw [O.arms y yo, List.map_map]; rfl
      rw [ea]
      refine ⟨trW T wl', trW T (nx y), hw2, rfl, ?_, fun p hp => ?_⟩
      · rw [List.length_map, List.length_map]; exact Nat.le_trans (show wl'.length + (nx y).length ≤ 5000 by omega) (by decide)
      have ew : trW T wl' ++ trW T (nx y) = trW T (wl' ++ nx y) := by simp [trW]
      rw [ew]
      have hp0 : G p = none := S2.free hp
      have tk := ST.take O.od.top hn'
      have psp : p ≠ sp := fun z => by rw [z, hs2] at hp; cases hp
      refine s_nil (s_nil ⟨(ord.length - (sn ++ [y]).length) * 5 + (wl' ++ nx y).length, ?_, p, sp, sn ++ [y], wl' ++ nx y, _, rfl, sub_aup S2 hp0, aup_same, ?_, psp, hp0, s0, tk, rfl, ?_⟩)
      · rw [List.length_append, List.length_append, List.length_singleton]; omega
      · rw [aup_ne psp.symm]; exact hs2
      · rw [List.length_append, List.length_append, List.length_singleton]; omega
    · exact s_nil (s_nil ⟨(ord.length - sn.length) * 5 + wl'.length, by omega, wp, sp, sn, wl', _, rfl, S1, hw1, hs1, hne, w0, s0, ST.skip hin, rfl, by omega⟩)
end
end SW
namespace SW
open PySem PySem.Spec L2 AL
theorem maxL_cons (n : Nat) (r : List Nat) : ((maxL (n :: r) : Nat) : Int) = (r.map fun (x : Nat) => (x : Int)).foldl max (n : Int) := by
  have gen : ∀ (r : List Nat) (a : Nat), ((r.foldl max a : Nat) : Int) = (r.map fun (x : Nat) => (x : Int)).foldl max (a : Int) := by
    intro r
    induction r with
    | nil => intro a; rfl
    | cons x r ih =>
      intro a
      show ((r.foldl max (max a x) : Nat) : Int) = _
      rw [ih]
      show _ = (r.map fun (x : Nat) => (x : Int)).foldl max (max (a : Int) (x : Int))
      congr 1
      omega
  show ((r.foldl max (max 0 n) : Nat) : Int) = _
  rw [Nat.zero_max, gen]
theorem AQ.mono' {X : Cx} {e : List Expr} {ρ : AS} {G : AH} {K K' : List W → AH → Prop} (h : AQ X e ρ G K) (i : ∀ w G, K w G → K' w G) : AQ X e ρ G K' :=
  ⟨fun pos pins s σ H I rs rg => thn (h.run pos pins s σ H I rs rg) fun u s' ⟨v, H', I', r, ws, G', k, r1, g, hl, q⟩ => ⟨v, H', I', r, ws, G', k, r1, g, hl, i _ _ q⟩⟩
theorem q_maxDefM {X : Cx} {e : Expr} {p pos p2 kpos : Pos} {ρ : AS} {G : AH} {K : W → AH → Prop} {d M : Int} {j : Nat} (hu : X.A.units + 64 < cLine) (hm : X.mg "max" = none) (h : AQ X [e] ρ G fun ws G1 => ∃ w ns, ws = [w] ∧ LsA G1 w (ns.map W.int) ∧ (ns = [] → d = M) ∧ (∀ n r, ns = n :: r → r.foldl max n = M) ∧ K (.int M) G1) (hc : X.calm = true := by rfl) (hg : Gl X "max" := by rfl)
    (he : backTo pos (starEach [e] X.env) = (false, eval e X.env) :: backTo pos (starEach [] X.env) := by rfl) (hpl : (backTo pos (starEach [e] X.env)).any (·.1) = false := by rfl)
    (hall : (backToKw pos (keywordEach [⟨some "default", .Constant (.int d) j p2, kpos⟩] X.env)).all (·.1.isSome) = true := by rfl) (hnone : (backToKw pos (keywordEach [⟨some "default", .Constant (.int d) j p2, kpos⟩] X.env)).any (·.1.isNone) = false := by rfl) (hks : (backToKw pos (keywordEach [⟨some "default", .Constant (.int d) j p2, kpos⟩] X.env)).filterMap (·.1) = [Str.ofString "default"] := by rfl) :
    EQ X (.Call (.Name "max" p) [e] [⟨some "default", .Constant (.int d) j p2, kpos⟩] pos) ρ G K :=
  q_maxDef hu hm (AQ.mono' h fun ws G1 ⟨w, ns, a1, a2, a3, a4, a5⟩ => ⟨w, ns, a1, a2, fun e => by rw [a3 e]; exact a5, fun n r e => by rw [a4 n r e]; exact a5⟩) hc hg he hpl hall hnone hks
section
variable {P : Program} {w : World} {K : PySem.W.Frag} {mg : Str → Option Value} {base : Heap}
abbrev sSm : Stmt := top 39
abbrev nSm : List Str := ["choice", "terms", "leads", "sizes", "lead", "k", "arms", "deep", "size", "arm"]
theorem sc_sm : FnScope nSm ["choice", "terms", "leads"] (defScope sSm) := ⟨rfl, rfl, rfl, by decide +kernel, rfl, by decide +kernel, by decide +kernel⟩
def spSm : ASp := fun ws G K _ => ∃ (t l ch : W) (ts : List Tm) (ls : List Nat) (p : Nat → Option Nat) (ord : List Nat) (S : Nat → Nat × Nat) (lead : Nat), ws = [ch, t, l] ∧ OIn G t l ch ts ls p ord ∧ (∀ x ∈ ord, S x = szF (nxF ts ls p) S x) ∧ ord.getLast? = some lead ∧
  ∀ b : Bool, (b = true ↔ ¬ bigS (S lead)) → K (.bl b) G
theorem ok_sm {f : Addr} {fd : FuncData} (F : Fun K "_law_small" "_law_small" sSm f fd) (B : Bl mg) (CA : Cal P w K mg base "_law_arms" 1 ["term"] spLa) : FnOk P w K mg base CX0 2 f fd ["choice", "terms", "leads"] (low ⟨P, w, K⟩ spSm) := by
  refine fnA_of F sc_sm (fun ws G Kc KE ⟨t, l, ch, ts, ls, p, ord, S, lead, e, _⟩ => by rw [e]; rfl) fun cdv A outer s H E ws G Kc KE hr ⟨t, l, ch, ts, ls, p, ord, S, lead, e, I, hS, hl, kk⟩ => ?_
  subst e
  have many := I.O.T.many
  obtain ⟨h0, hla⟩ := last_at hl
  have hlm : lead ∈ ord := List.mem_of_getElem? hla
  have rla : atI (rwW p ord) (-1) = some (.tup [.int (lead : Nat), .int ((p lead).getD 0 : Nat)]) := by
    refine atI_last ?_ (by rw [rwW_length]; exact h0)
    rw [rwW_length, rwW, List.getElem?_map, hla]; rfl
  refine s_cons (s_set (i := 3) sc_sm.nd (q_dnew fun a ha => ?_))
  have Sx : ∀ o, Sub G (aup G a o) := fun _ => Sub.new ha
  refine s_cons (s_for PassesOwn.never rfl (i_list (qv 0 rfl ⟨_, (I.sub (Sx _)).hC, ?_⟩)))
  refine ⟨fun i ρ' G' => ∃ (bk : List (Key × W)) (v1 v2 v3 v4 : Option W), ρ' = [some ch, some t, some l, some (.ref a), v1, v2, v3, v4, none, none] ∧ G' = aup G a (.dK bk) ∧ DI ts.length bk (onOrd (ord.take i) S szW), ⟨[], none, none, none, none, rfl, rfl, (DI.nil _).cong fun j => by simp [onOrd]⟩,
    fun i ρ' G' _ ⟨_, _, _, _, _, _, e2, _⟩ => by rw [e2]; exact (I.sub (Sx _)).hC, fun i z ρ' G' hz ⟨bk, v1, v2, v3, v4, e1, e2, D⟩ => ?_, fun ρ' G' ⟨bk, v1, v2, v3, v4, e1, e2, D⟩ => ?_⟩
  · obtain ⟨x, hx, rfl⟩ := rw_item hz
    subst e1 e2
    obtain ⟨hxl, m, hp, hm⟩ := I.pk x (List.mem_of_getElem? hx)
    rw [hp]
    have tm := at_of (d := Tm.num 0) hm
    have nxe : nxF ts ls p x = (arms (tmAt ts m)).map (Lf ls) := by unfold nxF; rw [hp]; rfl
    have hia : (∀ b ∈ arms (tmAt ts m), b < ls.length) ∧ (arms (tmAt ts m)).length ≤ 4 := (mk_arms I.O.T (ls := ls) I.O.g.len tm)
    have ah := I.top.ahead i x hx
    rw [nxe] at ah
    have ex := hS x (List.mem_of_getElem? hx)
    unfold szF at ex
    rw [nxe, List.map_map, List.map_map] at ex
    have tm : ts[m]? = some (tmAt ts m) := tm
    generalize ha' : arms (tmAt ts m) = as at ah hia ex
    refine g_tup rfl (gs_cons (g_name (i := 4) sc_sm.nd (gs_cons (g_name (i := 5) sc_sm.nd (gs_nil ?_)))))
    refine s_cons (s_setLc sc_sm.nd (blkOk_by (N := nSm) (sc := defScope sSm) (own := [("arm", 9)]) (by decide +kernel)) (i_list (q_cal CA hr (a_cons (q_ix (qv 1 rfl (qv 5 rfl (fIx_ls (I.sub (Sx _)).hT (tW_at tm) ?_))))))) (i := 6))
    refine a_nil ⟨_, nW as, rfl, by rw [← ha']; exact arW_tm _, ⟨nW as, rfl, ?_⟩⟩
    refine lk_mapZ (zs := as) (fun (k : Nat) => W.int k) (fun k => szW (S (Lf ls k))) sc_sm.nd (Nat.le_trans hia.2 (by decide)) (fun _ _ _ => rfl) (fun b hb D' ws hD s0 H0 C cl fp => ?_) (fun D' hD => ?_)
    · refine q_dget (u64 hr) (qv 3 rfl (q_ix (qv 2 rfl (qv 9 rfl (fIx_ls ((I.sub (Sx _)).hL.new hD) (nW_at (hia.1 b hb)) ?_)))))
      refine ⟨bk, _, _, .inl (aup_new hD aup_same), keyW_nat _, ?_, rfl, rfl⟩
      rw [D.get]
      unfold onOrd
      rw [if_pos (ah _ (List.mem_map_of_mem hb))]
    refine s_frz 6 rfl aup_same ?_
    rw [adel_aup hD]
    refine s_cons (s_set (i := 7) sc_sm.nd (q_maxDefM (M := ((maxL (as.map fun k => (S (Lf ls k)).2) : Nat) : Int)) (u64 hr) B.max (a_cons (q_v (q_lc sc_sm.nd (blkOk_by (N := nSm) (sc := defScope sSm) (own := [("size", 8)]) (by decide +kernel)) (i_list (qv 6 rfl ⟨_, rfl, ?_⟩)))))))
    refine lk_mapZ (zs := as) (fun (k : Nat) => szW (S (Lf ls k))) (fun k => W.int ((S (Lf ls k)).2 : Nat)) sc_sm.nd (Nat.le_trans hia.2 (by decide)) (fun _ _ _ => rfl) (fun b hb D' ws hD s0 H0 C cl fp => ?_) (fun D' hD => ?_)
    · exact q_ix (qv 8 rfl (q_int ⟨rfl, rfl⟩))
    refine frz_new hD ?_
    refine a_nil ⟨_, as.map fun k => (((S (Lf ls k)).2 : Nat) : Int), rfl, by rw [List.map_map]; rfl, (fun e => ?_), (fun n r e => ?_), ?_⟩
    · rw [List.map_eq_nil_iff.mp e]; rfl
    · cases as with
      | nil => cases e
      | cons b bs =>
        rw [List.map_cons, List.cons.injEq] at e
        obtain ⟨rfl, rfl⟩ := e
        rw [List.map_cons, maxL_cons, List.map_map]
        rfl
    refine s_cons (s_asg (q_tup (a_cons (q_add (q_int (q_sum B.sum (a_cons (q_v (q_lc sc_sm.nd (blkOk_by (N := nSm) (sc := defScope sSm) (own := [("size", 8)]) (by decide +kernel)) (i_list (qv 6 rfl ⟨_, rfl, ?_⟩)))))))))))
    refine lk_mapZ (zs := as) (fun (k : Nat) => szW (S (Lf ls k))) (fun k => W.int ((S (Lf ls k)).1 : Nat)) sc_sm.nd (Nat.le_trans hia.2 (by decide)) (fun _ _ _ => rfl) (fun b hb D' ws hD s0 H0 C cl fp => ?_) (fun D' hD => ?_)
    · exact q_ix (qv 8 rfl (q_int ⟨rfl, rfl⟩))
    refine frz_new hD (a_nil ⟨as.map fun k => (((S (Lf ls k)).1 : Nat) : Int), by rw [List.map_map]; rfl, ?_⟩)
    have es : (as.map fun k => (((S (Lf ls k)).1 : Nat) : Int)).sum = (((as.map fun k => (S (Lf ls k)).1).sum : Nat) : Int) := by
      rw [← sum_cast, List.map_map]; rfl
    rw [es]
    refine a_cons (q_add (q_int (qv 7 rfl (a_nil ?_))))
    refine g_dput (u64 hr) (qv 3 rfl (qv 4 rfl ⟨bk, _, aup_same, keyW_nat _, D.small (by omega), ?_⟩))
    rw [aup_aup]
    refine s_nil ⟨_, _, _, _, _, rfl, rfl, (D.put hxl _).cong fun j => ?_⟩
    rw [← onOrd_add hx j]
    have : W.tup [W.int (1 + ((as.map fun k => (S (Lf ls k)).1).sum : Nat) : Int), W.int (1 + ((maxL (as.map fun k => (S (Lf ls k)).2) : Nat) : Int))] = szW (S x) := by
      rw [ex]
      show _ = W.tup [W.int ((1 + (as.map fun k => (S (Lf ls k)).1).sum : Nat) : Int), W.int ((maxL (as.map fun k => (S (Lf ls k)).2) + 1 : Nat) : Int)]
      rw [Int.natCast_add, Int.natCast_add, Int.add_comm ((maxL _ : Nat) : Int)]
      rfl
    rw [← this]
  · rw [rwW_length, List.take_length] at D
    subst e1 e2
    refine s_cons (s_set (i := 8) sc_sm.nd (q_dget (u64 hr) (qv 3 rfl (q_ix (q_ix (qv 0 rfl (q_neg (q_int ?_))))))))
    dsimp only [onI]
    refine fIx_ls (I.sub (Sx _)).hC rla ?_
    refine q_int ⟨bk, _, szW (S lead), .inl aup_same, keyW_nat _, by rw [D.get]; unfold onOrd; rw [if_pos hlm], ?_⟩
    refine s_cons (s_ret (q_and (q_le (q_ix (qv 8 rfl (q_int ?_))))))
    refine q_int ?_
    refine ifB_dec (fun hb => ?_) (fun hb => ⟨G, Sx _, kk _ ⟨(fun z => by cases z), fun z => absurd (Or.inl (by omega)) z⟩⟩)
    refine q_one (q_le (q_ix (qv 8 rfl (q_int ?_))))
    refine q_int ⟨G, Sx _, kk _ ?_⟩
    unfold bigS
    rw [decide_eq_true_iff]
    omega
end
end SW
namespace SW
open PySem PySem.Spec L2 AL
/-- a def that may raise -/
structure CalX (P : Program) (w : World) (K : PySem.W.Frag) (mg : Str → Option Value) (base : Heap) (x : Str) (k : Nat) (ps : List Str) (sp : ASp) : Prop where
  ex : ∃ f fd, FnOk P w K mg base (L2.CX P w) k f fd ps (low ⟨P, w, K⟩ sp) ∧ mg x = some (.ref f) ∧ PySem.W.keepIn K (.ref f) = true ∧ Binds K fd ps []
section
variable {P : Program} {w : World} {K : PySem.W.Frag} {mg : Str → Option Value} {base : Heap}
abbrev sTr : Stmt := top 40
abbrev nTr : List Str := ["choice", "terms", "leads", "tree"]
theorem sc_tr : FnScope nTr ["choice", "terms", "leads"] (defScope sTr) := ⟨rfl, rfl, rfl, by decide +kernel, rfl, by decide +kernel, by decide +kernel⟩
def spTr : ASp := fun ws G K _ => ∃ (t l ch : W) (ts : List Tm) (ls : List Nat) (p : Nat → Option Nat) (ord : List Nat) (S : Nat → Nat × Nat) (T : Nat → Tr) (lead : Nat), ws = [ch, t, l] ∧ OIn G t l ch ts ls p ord ∧ (∀ x ∈ ord, S x = szF (nxF ts ls p) S x) ∧ (∀ x ∈ ord, T x = trF ts ls p T x) ∧ ord.getLast? = some lead ∧
  (bigS (S lead) → K .non G) ∧ (¬ bigS (S lead) → K (T lead).W G)
theorem ok_tr {C : Addr} {f : Addr} {fd : FuncData} (F : Fun K "_law_tree" "_law_tree" sTr f fd) (B : Bl mg) (TB : ExcT K mg "TooBig" C) (CT : CalX P w K mg base "taken" 3 ["terms", "leads", "choice"] (spTk C)) : FnOk P w K mg base CX0 4 f fd ["choice", "terms", "leads"] (low ⟨P, w, K⟩ spTr) := by
  refine fnA_of F sc_tr (fun ws G Kc KE ⟨t, l, ch, ts, ls, p, ord, S, T, lead, e, _⟩ => by rw [e]; rfl) fun cdv A outer s H E ws G Kc KE hr ⟨t, l, ch, ts, ls, p, ord, S, T, lead, e, I, hS, hT, hl, k1, k2⟩ => ?_
  subst e
  obtain ⟨ft, fdt, Ft, hmt, hkt, hbt⟩ := CT.ex
  refine s_cons (s_set (i := 3) sc_tr.nd (q_non ?_))
  refine s_cons (s_cut (P := fun ρ2 G2 => ∃ v, ρ2 = [some ch, some t, some l, some v] ∧ ∃ G'', Sub G'' G2 ∧ Kc v G'') ?_ ?_)
  · refine s_tryCall (c := .ref C) (i := 3) Ft hr hmt hkt hbt ?_ sc_tr.nd fun pn xe => ?_
    · exact ⟨rfl, by decide, .inl TB.gC⟩
    · refine a_cons (q_list B.list (a_cons (qv 1 rfl (a_nil (fList_ls I.hT fun a ha => ?_)))))
      refine a_cons (q_list B.list (a_cons (qv 2 rfl (a_nil (fList_ls (I.hL.new ha) fun b hb => ?_)))))
      obtain ⟨hb0, hba⟩ := aup_free hb
      refine a_cons (q_list B.list (a_cons (qv 0 rfl (a_nil (fList_ls ((I.hC.new ha).new hb) fun c hc => ?_)))))
      obtain ⟨hc1, hcb⟩ := aup_free hc
      obtain ⟨hc0, hca⟩ := aup_free hc1
      have S3 : Sub G (aup (aup (aup G a (.lst (tW ts))) b (.lst (nW ls))) c (.lst (rwW p ord))) := (sub2 ha hb0).trans (Sub.new hc)
      refine a_nil ⟨.ref a, .ref b, .ref c, ts, ls, p, ord, S, T, lead, rfl, ⟨?_, ?_, aup_same, I.O, I.top, I.pk⟩, hS, hT, hl, fun hb => ⟨TB.ex, fun a' oe pn' => ?_⟩, fun hb => ⟨_, rfl, G, S3, k2 hb⟩⟩
      · exact aup_old hca.symm (aup_old hba.symm aup_same)
      · exact aup_old hcb.symm aup_same
      · exact s_cons (s_set (i := 3) sc_tr.nd (q_non (s_nil ⟨_, rfl, G, S3, k1 hb⟩)))
  · rintro ρ2 G2 ⟨v, rfl, q⟩
    exact s_cons (s_ret (qv 3 rfl q))
end
end SW
namespace SW
open PySem PySem.Spec L2 AL
/-- a choice for a class, plain -/
structure Cho (ts : List Tm) (ls : List Nat) (p : Nat → Option Nat) (ord : List Nat) (lead : Nat) : Prop where
  O : LsOk ts ls
  od : Ord (nxF ts ls p) lead ord
  pk : ∀ x ∈ ord, x < ts.length ∧ ∃ m, p x = some m ∧ m < ts.length ∧ Lf ls m = x
theorem trF_congr {ts : List Tm} {ls : List Nat} {p : Nat → Option Nat} (l : Nat) (f g : Nat → Tr) (h : ∀ m ∈ nxF ts ls p l, f m = g m) : trF ts ls p f l = trF ts ls p g l := by
  unfold trF
  unfold nxF at h
  generalize tmAt ts ((p l).getD 0) = t at h ⊢
  cases t with
  | num n => rfl
  | name n => rfl
  | of w ks =>
    show Tr.of w _ = Tr.of w _
    congr 1
    exact List.map_congr_left fun a ha => h _ (List.mem_map_of_mem ha)
theorem szF_congr {nx : Nat → List Nat} (l : Nat) (f g : Nat → Nat × Nat) (h : ∀ m ∈ nx l, f m = g m) : szF nx f l = szF nx g l := by
  unfold szF
  have e1 : (nx l).map (fun m => (f m).1) = (nx l).map (fun m => (g m).1) := List.map_congr_left fun a ha => by rw [h a ha]
  have e2 : (nx l).map (fun m => (f m).2) = (nx l).map (fun m => (g m).2) := List.map_congr_left fun a ha => by rw [h a ha]
  rw [e1, e2]
theorem Cho.ex {ts : List Tm} {ls : List Nat} {p : Nat → Option Nat} {ord : List Nat} {lead : Nat} (c : Cho ts ls p ord lead) : ∃ (S : Nat → Nat × Nat) (T : Nat → Tr), (∀ x ∈ ord, S x = szF (nxF ts ls p) S x) ∧ ∀ x ∈ ord, T x = trF ts ls p T x := by
  obtain ⟨S, hS⟩ := topo (0, 0) (nx := nxF ts ls p) (fun l f => szF (nxF ts ls p) f l) (fun l f g h => szF_congr l f g h) ord c.od.top
  obtain ⟨T, hT⟩ := topo (Tr.num 0) (nx := nxF ts ls p) (fun l f => trF ts ls p f l) (fun l f g h => trF_congr l f g h) ord c.od.top
  exact ⟨S, T, hS, hT⟩
theorem trF_arms (ts : List Tm) (ls : List Nat) (p : Nat → Option Nat) (T : Nat → Tr) (x : Nat) : armsT (trF ts ls p T x) = (nxF ts ls p x).map T := by
  unfold trF nxF
  cases tmAt ts ((p x).getD 0) with
  | num n => rfl
  | name n => rfl
  | of w ks => show ks.map _ = (ks.map _).map _; rw [List.map_map]; rfl
theorem trF_ky (ts : List Tm) (ls : List Nat) (p : Nat → Option Nat) (T : Nat → Tr) (x : Nat) : kyT (trF ts ls p T x) = ky (tmAt ts ((p x).getD 0)) := by
  unfold trF
  cases tmAt ts ((p x).getD 0) <;> rfl
theorem trF_hd (ts : List Tm) (ls : List Nat) (p : Nat → Option Nat) (T : Nat → Tr) (x : Nat) : hdT (trF ts ls p T x) = hdW (tmAt ts ((p x).getD 0)) := by
  unfold trF
  cases tmAt ts ((p x).getD 0) <;> rfl
theorem okWs_map {T : Nat → Tr} : ∀ {xs : List Nat}, (∀ x ∈ xs, okW (T x).W = true) → okWs ((xs.map T).map Tr.W) = true
  | [], _ => rfl
  | x :: xs, h => by
    show (okW (T x).W && okWs ((xs.map T).map Tr.W)) = true
    rw [h x List.mem_cons_self, okWs_map fun y hy => h y (List.mem_cons_of_mem _ hy)]; rfl
theorem okW_wd {w : Str} {ks : List Nat} (h : okW (Tm.of w ks).W = true) : PyData.strOk w = true := by
  have h : (PyData.strOk ("of" : Str) && (PyData.strOk w && (okWs (nW ks) && true))) = true := h
  rw [Bool.and_eq_true, Bool.and_eq_true] at h
  exact h.2.1
theorem trF_ok {ts : List Tm} {ls : List Nat} {p : Nat → Option Nat} {T : Nat → Tr} {x : Nat} (h : okW (tmAt ts ((p x).getD 0)).W = true) (ha : ∀ m ∈ nxF ts ls p x, okW (T m).W = true) : okW (trF ts ls p T x).W = true := by
  unfold trF
  unfold nxF at ha
  generalize tmAt ts ((p x).getD 0) = t at h ha
  cases t with
  | num n => show okW (Tr.num n).W = true; rw [Tr.W]; exact h
  | name n => show okW (Tr.name n).W = true; rw [Tr.W]; exact h
  | of w ks =>
    show okW (Tr.of w (ks.map fun a => T (Lf ls a))).W = true
    rw [Tr.W, Tr.Ws_map]
    have e1 : PyData.strOk ("of" : Str) = true := by decide +kernel
    show (PyData.strOk ("of" : Str) && (PyData.strOk w && (okWs ((ks.map fun a => T (Lf ls a)).map Tr.W) && true))) = true
    have e : (ks.map fun a => T (Lf ls a)) = (ks.map (Lf ls)).map T := by rw [List.map_map]; rfl
    have ha : ∀ m ∈ ks.map (Lf ls), okW (T m).W = true := ha
    rw [e1, okW_wd h, e, okWs_map ha]; rfl
theorem dpWs_le {n : Nat} : ∀ {ws : List W}, (∀ w ∈ ws, dpW w ≤ n) → dpWs ws ≤ n
  | [], _ => Nat.zero_le _
  | w :: ws, h => Nat.max_le.mpr ⟨h w List.mem_cons_self, dpWs_le fun w hw => h w (List.mem_cons_of_mem _ hw)⟩
theorem OkT.mono {d d' : Nat} {u : Tr} (h : OkT d u) (l : d ≤ d') : OkT d' u := by
  induction h generalizing d' with
  | num n => cases d' with
    | zero => omega
    | succ d' => exact .num n
  | name n => cases d' with
    | zero => omega
    | succ d' => exact .name n
  | of w h1 _ ih => cases d' with
    | zero => omega
    | succ d' => exact .of w h1 fun x hx => ih x hx (by omega)
theorem OkT.dp {d : Nat} {u : Tr} (h : OkT d u) : dpW u.W ≤ 2 * d := by
  induction h with
  | num n => rw [Tr.W]; show max 0 (max 0 0) + 1 ≤ _; rw [Nat.max_self, Nat.max_self]; omega
  | name n => rw [Tr.W]; show max 0 (max 0 0) + 1 ≤ _; rw [Nat.max_self, Nat.max_self]; omega
  | @of d w xs h1 _ ih =>
    rw [Tr.W, Tr.Ws_map]
    show max 0 (max 0 (max (dpWs (xs.map Tr.W) + 1) 0)) + 1 ≤ _
    have : dpWs (xs.map Tr.W) ≤ 2 * d := dpWs_le fun w hw => by
      obtain ⟨x, hx, rfl⟩ := List.mem_map.mp hw
      exact ih x hx
    rw [Nat.zero_max, Nat.zero_max, Nat.max_zero]; omega
theorem trF_okT {ts : List Tm} {ls : List Nat} {p : Nat → Option Nat} {T : Nat → Tr} {x d : Nat} (h4 : (arms (tmAt ts ((p x).getD 0))).length ≤ 4) (ha : ∀ m ∈ nxF ts ls p x, OkT d (T m)) : OkT (d + 1) (trF ts ls p T x) := by
  unfold trF
  unfold nxF at ha
  generalize tmAt ts ((p x).getD 0) = t at h4 ha
  cases t with
  | num n => exact .num n
  | name n => exact .name n
  | of w ks =>
    refine .of w (by rw [List.length_map]; exact h4) fun u hu => ?_
    obtain ⟨a, ha', rfl⟩ := List.mem_map.mp hu
    exact ha _ (List.mem_map_of_mem ha')
/-- all that is asked of the trees of a choice -/
structure TrP (ts : List Tm) (ls : List Nat) (p : Nat → Option Nat) (ord : List Nat) (lead : Nat) (tb : List (W × W)) (kws : List (Key × W)) (T : Nat → Tr) : Prop where
  cls : ∀ x ∈ ord, clsT tb (T x) = .int x
  okT : ∀ x ∈ ord, OkT 18 (T x)
  on : OnT (nxF ts ls p) T ord lead
  sum : onS kws T ord = cSum ts (cst kws) p ord
theorem Cho.trP {ts : List Tm} {es : List Ed} {ls : List Nat} {p : Nat → Option Nat} {ord : List Nat} {lead : Nat} {tb : List (W × W)} {kws : List (Key × W)} {T : Nat → Tr} (c : Cho ts ls p ord lead) (M : Made ts es) (TB : TbOk ts ls tb) (hT : ∀ x ∈ ord, T x = trF ts ls p T x) : TrP ts ls p ord lead tb kws T := by
  have four : ∀ x ∈ ord, (arms (tmAt ts ((p x).getD 0))).length ≤ 4 := fun x hx => by
    obtain ⟨_, m, h1, h2, _⟩ := c.pk x hx
    rw [h1]
    exact (mk_arms c.O.T (ls := ls) c.O.g.len (at_of (d := Tm.num 0) h2)).2
  have cls : ∀ x ∈ ord, clsT tb (T x) = .int x := ord_indx c.od.top fun x hx ih => by
    obtain ⟨_, m, h1, h2, h3⟩ := c.pk x hx
    rw [clsT_eq, hT x hx, trF_hd, trF_arms, clsTs_map, List.map_map]
    have e : (nxF ts ls p x).map (clsT tb ∘ T) = nW (nxF ts ls p x) := List.map_congr_left fun m hm => (ih m hm).2
    rw [e]
    have e2 : W.tup [.tup (hdW (tmAt ts ((p x).getD 0))), .tup (nW (nxF ts ls p x))] = tkey ls (tmAt ts m) := by
      unfold nxF; rw [h1]; rfl
    rw [e2, TB.at' m h2, h3]
    rfl
  have okT : ∀ i x, ord[i]? = some x → OkT (i + 1) (T x) := ord_ind c.od.top fun i x hx ih => by
    have hm := List.mem_of_getElem? hx
    rw [hT x hm]
    exact trF_okT (four x hm) fun m hm => let ⟨j, h1, h2, h3⟩ := ih m hm; h3.mono (by omega)
  have ol : ord.length ≤ 18 := Nat.le_trans (nodup_below ts.length ord c.od.top.nd fun x hx => (c.pk x hx).1) M.le
  have okT' : ∀ x ∈ ord, OkT 18 (T x) := fun x hx => by
    obtain ⟨i, hi, e⟩ := List.getElem_of_mem hx
    exact (okT i x (by rw [← e]; exact List.getElem?_eq_getElem hi)).mono (by omega)
  refine ⟨cls, okT', ⟨c.od, fun x hx => by rw [hT x hx]; exact trF_arms _ _ _ _ _, fun x hx => by unfold nxF; rw [List.length_map]; exact four x hx, fun x hx y hy e => ?_, fun x hx => ⟨?_, Nat.le_trans (okT' x hx).dp (by decide)⟩⟩, ?_⟩
  · have e := Tr.W_inj e
    have := cls x hx
    rw [e, cls y hy] at this
    have := W.int.inj this
    omega
  · revert x
    exact ord_indx c.od.top fun x hx ih => by
      obtain ⟨_, m, h1, h2, h3⟩ := c.pk x hx
      rw [hT x hx]
      refine trF_ok ?_ fun m hm => (ih m hm).2
      rw [h1]
      exact M.ok _ (List.mem_of_getElem? (at_of (d := Tm.num 0) h2))
  · unfold onS cSum
    congr 1
    exact List.map_congr_left fun x hx => by rw [hT x hx, trF_ky, cst_K]
theorem Cho.sum {ts : List Tm} {ls : List Nat} {p : Nat → Option Nat} {ord : List Nat} {lead : Nat} {kws : List (Key × W)} {T : Nat → Tr} {B : Nat → Nat} (c : Cho ts ls p ord lead) (hT : ∀ x ∈ ord, T x = trF ts ls p T x) (hB : ∀ x ∈ ord, prN ts ls (cst kws) B ((p x).getD 0) = B x) : ∀ x ∈ ord, sumT kws (T x) = B x :=
  ord_indx c.od.top fun x hx ih => by
    rw [sumT_eq, hT x hx, trF_ky, trF_arms, sumTs_map, List.map_map, ← cst_K]
    have e : (nxF ts ls p x).map (sumT kws ∘ T) = (nxF ts ls p x).map B := List.map_congr_left fun m hm => (ih m hm).2
    rw [e, ← hB x hx]
    unfold prN nxF
    rw [List.map_map]; rfl
/-- what is paid once is not more than what is paid each time -/
theorem cSum_le {ts : List Tm} {ls : List Nat} {c : Tm → Nat} {p : Nat → Option Nat} {ord : List Nat} {lead : Nat} {B : Nat → Nat} (od : Ord (nxF ts ls p) lead ord) (hB : ∀ x ∈ ord, prN ts ls c B ((p x).getD 0) = B x) : cSum ts c p ord ≤ B lead := by
  have go : ∀ (n : Nat) (sn wl : List Nat), (ord.length - sn.length) + wl.length * 0 ≤ n → Stk (nxF ts ls p) ord lead sn wl → (sn.map fun l => c (tmAt ts ((p l).getD 0))).sum + (wl.map B).sum ≤ B lead → cSum ts c p ord ≤ B lead := by
    intro n
    induction n with
    | zero =>
      intro sn wl
      induction h : wl.length generalizing wl with
      | zero =>
        intro _ st hs
        have : wl = [] := List.length_eq_zero_iff.mp h
        subst this
        have e : cSum ts c p ord = (sn.map fun l => c (tmAt ts ((p l).getD 0))).sum := (sum_perm (st.done od)).symm
        rw [e]; exact Nat.le_trans (Nat.le_add_right _ _) hs
      | succ k ih =>
        intro hn st hs
        rcases List.eq_nil_or_concat wl with e | ⟨wl', y, e⟩
        · subst e; cases h
        rw [List.concat_eq_append] at e
        subst e
        by_cases hy : y ∈ sn
        · rw [List.map_append, List.sum_append] at hs
          rw [List.length_append, List.length_singleton] at h
          exact ih wl' (by omega) (by omega) (st.skip hy) (by omega)
        · have := st.lt (st.w y (List.mem_append_right _ (by simp))) hy
          omega
    | succ n ihn =>
      intro sn wl
      induction h : wl.length generalizing wl with
      | zero =>
        intro _ st hs
        have : wl = [] := List.length_eq_zero_iff.mp h
        subst this
        have e : cSum ts c p ord = (sn.map fun l => c (tmAt ts ((p l).getD 0))).sum := (sum_perm (st.done od)).symm
        rw [e]; exact Nat.le_trans (Nat.le_add_right _ _) hs
      | succ k ih =>
        intro hn st hs
        rcases List.eq_nil_or_concat wl with e | ⟨wl', y, e⟩
        · subst e; cases h
        rw [List.concat_eq_append] at e
        subst e
        rw [List.map_append, List.sum_append] at hs
        rw [List.length_append, List.length_singleton] at h
        by_cases hy : y ∈ sn
        · exact ih wl' (by omega) (by omega) (st.skip hy) (by omega)
        · have yo : y ∈ ord := st.w y (List.mem_append_right _ (by simp))
          have lt := st.lt yo hy
          refine ihn (sn ++ [y]) (wl' ++ nxF ts ls p y) (by rw [List.length_append, List.length_singleton]; omega) (st.take od.top hy) ?_
          rw [List.map_append, List.sum_append, List.map_append, List.sum_append]
          have hb := hB y yo
          unfold prN at hb
          have e1 : ((nxF ts ls p y).map B).sum = ((arms (tmAt ts ((p y).getD 0))).map fun a => B (Lf ls a)).sum := by unfold nxF; rw [List.map_map]; rfl
          rw [e1]
          simp only [List.map_cons, List.map_nil, List.sum_cons, List.sum_nil] at hs ⊢
          omega
  refine go _ [] [lead] (Nat.le_refl _) ⟨List.nodup_nil, (fun x h => by cases h), (fun x h => by simp at h; subst h; exact od.mem), (fun x h => by cases h), .inr (by simp)⟩ ?_
  simp
end SW
namespace SW
open PySem PySem.Spec L2 AL
theorem ky_mk (ls : List Nat) (t : Tm) : ky (mk ls t) = ky t := by cases t <;> rfl
theorem arms_mk (ls : List Nat) (t : Tm) : arms (mk ls t) = (arms t).map (Lf ls) := by cases t <;> rfl
theorem prN_mk {ts : List Tm} {ls : List Nat} {kws : List (Key × W)} {B : Nat → Nat} {i j : Nat} (h : mkE ts ls i = mkE ts ls j) : prN ts ls (cst kws) B i = prN ts ls (cst kws) B j := by
  have h1 : ky (tmAt ts i) = ky (tmAt ts j) := by rw [← ky_mk ls, ← ky_mk ls (tmAt ts j)]; exact congrArg ky h
  have h2 : (arms (tmAt ts i)).map (Lf ls) = (arms (tmAt ts j)).map (Lf ls) := by rw [← arms_mk, ← arms_mk]; exact congrArg arms h
  have e : ∀ k, (arms (tmAt ts k)).map (fun a => B (Lf ls a)) = ((arms (tmAt ts k)).map (Lf ls)).map B := fun k => by rw [List.map_map]; rfl
  unfold prN
  rw [cst_K, cst_K, h1, e, e, h2]
theorem reach_congr {nx nx' : Nat → List Nat} {S : Nat → Prop} {lead : Nat} (h : ∀ l, S l → nx l = nx' l) (cl : ∀ l, S l → ∀ m ∈ nx l, S m) (hS : S lead) {l : Nat} (r : Reach nx lead l) : S l ∧ Reach nx' lead l := by
  induction r with
  | refl => exact ⟨hS, .refl⟩
  | @step b c _ hm ih => exact ⟨cl b ih.1 c hm, .step ih.2 (by rw [← h b ih.1]; exact hm)⟩
theorem pick_nd {ts : List Tm} {ls : List Nat} {kws : List (Key × W)} {b : Nat → Option Nat} {B : Nat → Nat} {p : Nat → Option Nat} (cg : ∀ i j, i < ts.length → j < ts.length → mkE ts ls i = mkE ts ls j → Lf ls i = Lf ls j) (be : Best ts ls (cst kws) b B) (pi : Pick ts ls (cst kws) B ts.length p) {l : Nat} (h : isLd ts ls l) : ∃ m, p l = some m ∧ m ∈ ndN ts ls l := by
  obtain ⟨m, h1, h2, h3, h4, h5⟩ := pick_at be pi h
  refine ⟨m, h1, ndM_mem.mpr ⟨h2, fst_iff.mpr fun j hj e => ?_, h3⟩⟩
  exact h5 j hj ((cg j m (by omega) h2 e).trans h3) ((prN_mk e).trans h4)
/-- what sharing tells is not more than the cheapest choice, each paid once -/
theorem share_le {ts : List Tm} {ls : List Nat} {kws : List (Key × W)} {b : Nat → Option Nat} {B : Nat → Nat} {p : Nat → Option Nat} {ord cls : List Nat} {lead : Nat} (O : LsOk ts ls) (hc : CsOk kws) (cg : ∀ i j, i < ts.length → j < ts.length → mkE ts ls i = mkE ts ls j → Lf ls i = Lf ls j) (be : Best ts ls (cst kws) b B) (pi : Pick ts ls (cst kws) B ts.length p) (od : Ord (nxF ts ls p) lead ord) (hl : isLd ts ls lead) (R : Rcd ts ls (ndN ts ls) lead cls)
    {v w0 : Nat} {ord0 : List Nat} (h : ShI ts ls (cst kws) lead cls (manyW (ndN ts ls) cls) (some (v, w0, ord0))) : v ≤ cSum ts (cst kws) p ord := by
  have hq : ∀ l ∈ cls, (p l).getD 0 ∈ ndN ts ls l := fun l hl => by
    obtain ⟨m, h1, h2⟩ := pick_nd cg be pi (R.ok l hl)
    rw [h1]; exact h2
  obtain ⟨w, hw, hpw⟩ := pkW_all (nd := ndN ts ls) (fun l => (p l).getD 0) cls R.nd' hq
  have ex : ∀ l ∈ cls, nxF ts ls p l = nxF ts ls (pkOf ts ls cls w) l := fun l hl => by
    unfold nxF pkOf
    rw [hpw _ l hl]; rfl
  have cl : ∀ l ∈ cls, ∀ m ∈ nxF ts ls p l, m ∈ cls := fun l hl m hm => by
    unfold nxF at hm
    obtain ⟨a, ha, rfl⟩ := List.mem_map.mp hm
    exact R.cl l hl _ (hq l hl) a ha
  have cl' : ∀ l ∈ cls, ∀ m ∈ nxF ts ls (pkOf ts ls cls w) l, m ∈ cls := fun l hl m hm => cl l hl m (by rw [ex l hl]; exact hm)
  have fw : ∀ l, Reach (nxF ts ls p) lead l → l ∈ cls ∧ Reach (nxF ts ls (pkOf ts ls cls w)) lead l := fun l r => reach_congr (S := (· ∈ cls)) ex cl R.hd r
  have bw : ∀ l, Reach (nxF ts ls (pkOf ts ls cls w)) lead l → l ∈ cls ∧ Reach (nxF ts ls p) lead l := fun l r => reach_congr (S := (· ∈ cls)) (fun l hl => (ex l hl).symm) cl' R.hd r
  obtain ⟨_, _, _, all⟩ := h
  rcases all w hw with hn | ⟨ord2, od2, le⟩
  · refine absurd (fun l r m hm => ?_) (hn B)
    obtain ⟨h1, r1⟩ := bw l r
    exact pick_falls O (fun t => cst_pos hc t) be pi (R.ok l h1) (by rw [ex l h1]; exact hm)
  · have pm : ord2.Perm ord := (List.perm_ext_iff_of_nodup od2.top.nd od.top.nd).mpr fun x => ⟨fun hx => od.top.all od.mem (bw x (od2.rch x hx)).2, fun hx => od2.top.all od2.mem (fw x (od.rch x hx)).2⟩
    refine Nat.le_trans le ?_
    have e : cSum ts (cst kws) (pkOf ts ls cls w) ord2 = cSum ts (cst kws) p ord2 := by
      unfold cSum
      congr 1
      refine List.map_congr_left fun x hx => ?_
      have := (bw x (od2.rch x hx)).1
      show cst kws (tmAt ts (((pkW (ndN ts ls) cls (w, fun _ => none)).2 x).getD 0)) = _
      rw [hpw _ x this]; rfl
    rw [e]
    exact Nat.le_of_eq (sum_perm pm)
theorem share_cho {ts : List Tm} {ls : List Nat} {c : Tm → Nat} {cls : List Nat} {lead : Nat} (O : LsOk ts ls) (cg : ∀ i j, i < ts.length → j < ts.length → mkE ts ls i = mkE ts ls j → Lf ls i = Lf ls j) (R : Rcd ts ls (ndN ts ls) lead cls)
    {v w0 m : Nat} {ord0 : List Nat} (h : ShI ts ls c lead cls m (some (v, w0, ord0))) : Cho ts ls (pkOf ts ls cls w0) ord0 lead := by
  obtain ⟨_, od, _, _⟩ := h
  refine ⟨O, od, fun x hx => ?_⟩
  have hc := reach_ok (way_pk cg R w0) R.hd (od.rch x hx)
  refine ⟨(R.ok x hc).1, ?_⟩
  obtain ⟨k, h1, h2⟩ := pkW_mem cls (w0, fun _ => none) R.nd' (fun l h => ld_nd cg (R.ok l h)) x hc
  obtain ⟨h3, _, h4⟩ := ndM_mem.mp h2
  exact ⟨k, h1, h3, h4⟩
theorem cheap_cho {ts : List Tm} {ls : List Nat} {c : Tm → Nat} {B : Nat → Nat} {p : Nat → Option Nat} {ord : List Nat} {lead : Nat} (O : LsOk ts ls) (h : ChR ts ls c lead B p ord) (hl : isLd ts ls lead) : Cho ts ls p ord lead ∧ ∀ x ∈ ord, prN ts ls c B ((p x).getD 0) = B x := by
  obtain ⟨b, be⟩ := h.best
  have ok : ∀ x ∈ ord, isLd ts ls x := fun x hx => reach_ok (pick_pk O be h.pick) hl (h.ord.rch x hx)
  refine ⟨⟨O, h.ord, fun x hx => ⟨(ok x hx).1, ?_⟩⟩, fun x hx => ?_⟩
  · obtain ⟨m, h1, h2, h3, _⟩ := pick_at be h.pick (ok x hx)
    exact ⟨m, h1, h2, h3⟩
  · obtain ⟨m, h1, h2, h3, h4, _⟩ := pick_at be h.pick (ok x hx)
    rw [h1]; exact h4
end SW
namespace SW
open PySem PySem.Spec L2 AL
theorem fIs_tr {neg : Bool} {t : Tr} {G : AH} {K : W → AH → Prop} (k : K (.bl neg) G) : fIsB neg t.W .non G K := by
  obtain ⟨xs, h, _⟩ := hdT_take t
  rw [h]
  cases neg <;> exact k
theorem fIx_tup {xs : List W} {i : Int} {v : W} {G : AH} {K : W → AH → Prop} (h : atI xs i = some v) (k : K v G) : fIx (.tup xs) (.int i) G K := by
  show onO (atI xs i) fun v => K v G
  rw [h]; exact k
theorem fNe_same {i : Int} {G : AH} {K : W → AH → Prop} (k : K (.bl false) G) : fNe (.int i) (.int i) G K := by
  show K (.bl (!decide (i = i))) G
  rw [decide_eq_true rfl]; exact k
section
variable {P : Program} {w : World} {K : PySem.W.Frag} {mg : Str → Option Value} {base : Heap}
abbrev sSf : Stmt := top 41
abbrev nSf : List Str := ["terms", "leads", "costs", "k", "found", "tree", "table", "told", "other"]
theorem sc_sf : FnScope nSf ["terms", "leads", "costs", "k", "found", "tree", "table"] (defScope sSf) := ⟨rfl, rfl, rfl, by decide +kernel, rfl, by decide +kernel, by decide +kernel⟩
def spSf : ASp := fun ws G K _ => ∃ (t l d : W) (ts : List Tm) (es : List Ed) (ls : List Nat) (kws : List (Key × W)) (k : Nat) (B : Nat → Nat) (p : Nat → Option Nat) (ord : List Nat) (tw : W) (a : Addr) (tb : List (W × W)), ws = [t, l, d, .int k, .int (B k : Nat), tw, .ref a] ∧ LsA G t (tW ts) ∧ LsA G l (nW ls) ∧ DkA G d kws ∧ CsOk kws ∧ LsOk ts ls ∧
  (∀ i j, i < ts.length → j < ts.length → mkE ts ls i = mkE ts ls j → Lf ls i = Lf ls j) ∧ Made ts es ∧ TbOk ts ls tb ∧ DnA G (.ref a) tb ∧ isLd ts ls k ∧ ChR ts ls (cst kws) k B p ord ∧ (tw = .non ∨ ∃ T, TrP ts ls p ord k tb kws T ∧ tw = (T k).W) ∧ K (.bl true) G
theorem ok_sf {C : Addr} {f : Addr} {fd : FuncData} (F : Fun K "_law_shared_fine" "_law_shared_fine" sSf f fd) (B : Bl mg) (TW : ExcT K mg "TooWide" C) (CS : CalX P w K mg base "sharing" 4 ["terms", "leads", "costs", "k"] (spSh C)) (CT : Cal P w K mg base "_law_tree" 4 ["choice", "terms", "leads"] spTr) (CM : Cal P w K mg base "_law_small" 2 ["choice", "terms", "leads"] spSm)
    (CC : Cal P w K mg base "_law_class" 19 ["tree", "table"] (spCl 18)) (CO : Cal P w K mg base "_law_once" 3 ["tree", "costs"] spOn) : FnOk P w K mg base CX0 20 f fd ["terms", "leads", "costs", "k", "found", "tree", "table"] (low ⟨P, w, K⟩ spSf) := by
  refine fnA_of F sc_sf (fun ws G Kc KE ⟨t, l, d, ts, es, ls, kws, k, Bf, p, ord, tw, a, tb, e, _⟩ => by rw [e]; rfl) fun cdv A outer s H E ws G Kc KE hr ⟨t, l, d, ts, es, ls, kws, k, Bf, p, ord, tw, a, tb, e, hT, hL, hD, hC, O, cg, M, TO, hB, hk, CR, htw, kk⟩ => ?_
  subst e
  have hr4 : Room 4 _ := hr.mono (by decide)
  have hr3 : Room 3 _ := hr.mono (by decide)
  have hr2 : Room 2 _ := hr.mono (by decide)
  obtain ⟨ft, fdt, Ft, hmt, hkt, hbt⟩ := CS.ex
  have tv : SQ (cxOf CX0 P w K mg base nSf "_law_shared_fine" (defScope sSf) f cdv A outer s H E).nox (defBody sSf) (startW nSf [t, l, d, .int k, .int (Bf k : Nat), tw, .ref a]) G { nx := fun _ G' => ∃ G'', Sub G'' G' ∧ Kc .non G'', rt := fun v G' => ∃ G'', Sub G'' G' ∧ Kc v G'' } := ?_
  · exact tv
  refine s_cons (s_set (i := 7) sc_sf.nd (q_non ?_))
  have base0 : startW nSf [t, l, d, .int k, .int (Bf k : Nat), tw, .ref a] = [some t, some l, some d, some (.int k), some (.int (Bf k : Nat)), some tw, some (.ref a), none, none] := rfl
  refine s_cons (s_cut (P := fun ρ2 G2 => ∃ v, ρ2 = [some t, some l, some d, some (.int k), some (.int (Bf k : Nat)), some tw, some (.ref a), some v, none] ∧ Sub G G2 ∧ (v = .non ∨ ∃ cls x w0 ord0, Rcd ts ls (ndN ts ls) k cls ∧ ShI ts ls (cst kws) k cls (manyW (ndN ts ls) cls) (some (x, w0, ord0)) ∧ v = .tup [.int (x : Nat), .lst (rwW (pkOf ts ls cls w0) ord0)])) ?_ ?_)
  · refine s_tryCall (c := .ref C) (i := 7) Ft hr4 hmt hkt hbt ?_ sc_sf.nd fun pn xe => ?_
    · exact ⟨rfl, by decide, .inl TW.gC⟩
    · refine a_cons (q_list B.list (a_cons (qv 0 rfl (a_nil (fList_ls hT fun a1 ha => ?_)))))
      refine a_cons (q_list B.list (a_cons (qv 1 rfl (a_nil (fList_ls (hL.new ha) fun b1 hb => ?_)))))
      obtain ⟨hb0, hba⟩ := aup_free hb
      refine a_cons (q_dictD B.dict (a_cons (qv 2 rfl (a_nil ⟨_, kws, rfl, (hD.new ha).new hb, fun c1 hc => ?_⟩))))
      obtain ⟨hc1, hcb⟩ := aup_free hc
      obtain ⟨hc0, hca⟩ := aup_free hc1
      have S3 : Sub G (aup (aup (aup G a1 (.lst (tW ts))) b1 (.lst (nW ls))) c1 (.dK kws)) := (sub2 ha hb0).trans (Sub.new hc)
      have hk2 : Lf ls k = k := hk.2
      refine a_cons (qv 3 rfl (a_nil ⟨.ref a1, .ref b1, .ref c1, ts, ls, kws, k, rfl, aup_old hca.symm (aup_old hba.symm aup_same), aup_old hcb.symm aup_same, .inl aup_same, hC, O, cg, hk.1, fun cls Rc _ => ⟨TW.ex, fun a' oe pn' => ?_⟩, fun cls o Rc _ si => ?_⟩))
      · exact s_cons (s_set (i := 7) sc_sf.nd (q_non (s_nil ⟨_, rfl, S3, .inl rfl⟩)))
      · rw [hk2] at Rc si
        cases o with
        | none => exact ⟨_, rfl, S3, .inl rfl⟩
        | some o =>
          obtain ⟨x, w0, ord0⟩ := o
          exact ⟨_, rfl, S3, .inr ⟨cls, x, w0, ord0, Rc, si, rfl⟩⟩
  · rintro ρ2 G2 ⟨v, rfl, S2, hv⟩
    refine s_cons (s_if (b_is (qv 7 rfl (q_non ?_))))
    rcases hv with rfl | ⟨cls, x, w0, ord0, Rc, si, rfl⟩
    · exact ifT (s_cons (s_ret (q_bl ⟨G, S2, kk⟩)))
    refine ifF (s_nil ?_)
    have c2 := share_cho O cg Rc si
    obtain ⟨S0, T0, hS0, hT0⟩ := c2.ex
    have tp : TrP ts ls (pkOf ts ls cls w0) ord0 k tb kws T0 := c2.trP M TO hT0
    have OI : ∀ G', Sub G G' → OIn G' t l (.lst (rwW (pkOf ts ls cls w0) ord0)) ts ls (pkOf ts ls cls w0) ord0 := fun G' s => ⟨hT.sub s, hL.sub s, rfl, O, c2.od.top, fun y hy => let ⟨h1, m, h2, h3, _⟩ := c2.pk y hy; ⟨h1, m, h2, h3⟩⟩
    have hlast := c2.od.last
    obtain ⟨bb, be⟩ := CR.best
    have c1 := cheap_cho O CR hk
    have le1 : x ≤ cSum ts (cst kws) p ord := share_le O hC cg be CR.pick CR.ord hk Rc si
    have le2 : cSum ts (cst kws) p ord ≤ Bf k := cSum_le CR.ord c1.2
    have hx : x = cSum ts (cst kws) (pkOf ts ls cls w0) ord0 := si.2.2.1
    have ol : ord0.length ≤ 400 := Nat.le_trans (nodup_below ts.length ord0 c2.od.top.nd fun y hy => (c2.pk y hy).1) O.T.many
    have ol1 : ord.length ≤ 400 := Nat.le_trans (nodup_below ts.length ord c1.1.od.top.nd fun y hy => (c1.1.pk y hy).1) O.T.many
    refine s_cons (s_set (i := 8) sc_sf.nd (q_cal CT hr4 (a_cons (q_ix (qv 7 rfl (q_int ?_))))))
    refine a_cons (qv 0 rfl (a_cons (qv 1 rfl (a_nil ⟨t, l, _, ts, ls, _, ord0, S0, T0, k, rfl, OI G2 S2, hS0, hT0, hlast, fun hb => ?_, fun hb => ?_⟩))))
    · refine s_cons (s_if (WQ.test (w_or (b_is (qv 8 rfl (q_non ?_))))))
      refine ifT (ifT ?_)
      refine s_cons (s_ret (q_and (q_is (qv 8 rfl (q_non ?_)))))
      refine ifT (q_and (q_not (q_cal CM hr2 (a_cons (q_ix (qv 7 rfl (q_int ?_)))))))
      refine a_cons (qv 0 rfl (a_cons (qv 1 rfl (a_nil ⟨t, l, _, ts, ls, _, ord0, S0, k, rfl, OI G2 S2, hS0, hlast, fun b hbb => ?_⟩))))
      cases b with
      | true => exact absurd hb (hbb.mp rfl)
      | false =>
        refine ifT (q_one (q_le (q_ix (qv 7 rfl (q_int ?_)))))
        refine qv 4 rfl ?_
        dsimp only [fLe, fIB]
        rw [decide_eq_true (show (x : Int) ≤ (Bf k : Int) by omega)]
        exact ⟨G, S2, kk⟩
    · refine s_cons (s_if (WQ.test (w_or (b_is (qv 8 rfl (q_non (fIs_tr ?_)))))))
      refine ifF (w_or1 (b_not (b_val (q_cal CM hr2 (a_cons (q_ix (qv 7 rfl (q_int ?_))))))))
      refine a_cons (qv 0 rfl (a_cons (qv 1 rfl (a_nil ⟨t, l, _, ts, ls, _, ord0, S0, k, rfl, OI G2 S2, hS0, hlast, fun b hbb => ?_⟩))))
      cases b with
      | false => exact absurd (hbb.mpr hb) (by decide)
      | true =>
        refine ifF (s_nil ?_)
        refine s_cons (s_if (WQ.test (w_or (b_ne (u64 hr) (q_cal CC hr (a_cons (qv 8 rfl (a_cons (qv 6 rfl (a_nil ⟨T0 k, a, tb, rfl, hB.sub S2, TO.v, tp.okT k c2.od.mem, ?_⟩))))))))))
        rw [tp.cls k c2.od.mem]
        have hkl : k < ls.length := by rw [O.g.len]; exact hk.1
        refine q_ix (qv 1 rfl (qv 3 rfl (fIx_ls (hL.sub S2) (nW_at hkl) ?_)))
        have hk2 : ls.getD k 0 = k := hk.2
        rw [hk2]
        refine fNe_same (i := (k : Int)) ?_
        refine ifF (w_or (b_ne (u64 hr) (q_cal CO hr3 (a_cons (qv 8 rfl (a_cons (qv 2 rfl (a_nil ⟨d, kws, _, T0, ord0, k, rfl, hD.sub S2, hC, tp.on, ol, ?_⟩))))))))
        refine q_ix (qv 7 rfl (q_int ?_))
        rw [tp.sum, ← hx]
        refine fIx_tup (v := .int (x : Nat)) rfl ?_
        refine fNe_same (i := (x : Int)) ?_
        refine ifF (w_or1 (b_gt (q_ix (qv 7 rfl (q_int ?_)))))
        refine qv 4 rfl (ifB_dec (fun h => absurd h (by omega)) (fun _ => s_nil ?_))
        refine s_cons (s_ret (q_or (q_is (qv 5 rfl (q_non ?_)))))
        rcases htw with rfl | ⟨T1, tp1, rfl⟩
        · exact ifT ⟨G, S2, kk⟩
        · refine fIs_tr (ifF (q_one (q_le (q_ix (qv 7 rfl (q_int ?_))))))
          refine q_cal CO hr3 (a_cons (qv 5 rfl (a_cons (qv 2 rfl (a_nil ⟨d, kws, _, T1, ord, k, rfl, hD.sub S2, hC, tp1.on, ol1, ?_⟩)))))
          rw [tp1.sum]
          dsimp only [fLe, fIB]
          rw [decide_eq_true (show (x : Int) ≤ (cSum ts (cst kws) p ord : Int) by omega)]
          exact ⟨G, S2, kk⟩
end
end SW
namespace SW
open PySem PySem.Spec L2 AL
theorem sum_le_map : ∀ {l : List Nat} {f g : Nat → Nat}, (∀ x ∈ l, f x ≤ g x) → (l.map f).sum ≤ (l.map g).sum
  | [], _, _, _ => Nat.le_refl _
  | x :: l, f, g, h => by
    rw [List.map_cons, List.map_cons, List.sum_cons, List.sum_cons]
    have := h x List.mem_cons_self
    have := sum_le_map (l := l) fun y hy => h y (List.mem_cons_of_mem _ hy)
    omega
theorem best_le {ts : List Tm} {ls : List Nat} {c : Tm → Nat} {b b' : Nat → Option Nat} {B B' : Nat → Nat} (O : LsOk ts ls) (hc : ∀ t, 1 ≤ c t) (h : Best ts ls c b B) (h' : Best ts ls c b' B') : ∀ (n k : Nat), k < ts.length → B (Lf ls k) ≤ n → B' (Lf ls k) ≤ B (Lf ls k) := by
  intro n
  induction n using Nat.strongRecOn with
  | _ n ih =>
    intro k hk hn
    obtain ⟨m, hm, e, hp⟩ := h.at' k hk
    have l1 := h'.le m hm
    rw [e] at l1
    refine Nat.le_trans l1 ?_
    rw [← hp]
    unfold prN at hp ⊢
    refine Nat.add_le_add_left (sum_le_map fun a ha => ?_) _
    have am := arms_lt O hm ha
    have := sum_mem_le (List.mem_map_of_mem (f := fun a => B (Lf ls a)) ha)
    have := hc (tmAt ts m)
    have e : B (Lf ls a) = (fun a => B (Lf ls a)) a := rfl
    exact ih (B (Lf ls a)) (by omega) a (by omega) (Nat.le_refl _)
theorem best_one {ts : List Tm} {ls : List Nat} {c : Tm → Nat} (O : LsOk ts ls) (hc : ∀ t, 1 ≤ c t) : ∃ B0 : Nat → Nat, ∀ b B, Best ts ls c b B → ∀ l, isLd ts ls l → B l = B0 l := by
  by_cases h : ∃ b B, Best ts ls c b B
  · obtain ⟨b0, B0, h0⟩ := h
    refine ⟨B0, fun b B hb l hl => ?_⟩
    have h1 := best_le O hc hb h0 _ l hl.1 (Nat.le_refl _)
    have h2 := best_le O hc h0 hb _ l hl.1 (Nat.le_refl _)
    rw [hl.2] at h1 h2
    omega
  · exact ⟨fun _ => 0, fun b B hb => absurd ⟨b, B, hb⟩ h⟩
theorem lsOk_closed {ts : List Tm} {es : List Ed} (M : Made ts es) : LsOk ts (closedM ts (ends es)) ∧ ∀ i j, i < ts.length → j < ts.length → mkE ts (closedM ts (ends es)) i = mkE ts (closedM ts (ends es)) j → Lf (closedM ts (ends es)) i = Lf (closedM ts (ends es)) j := by
  have C := closed_ok M.T.wf (es := ends es) fun e he => by
    obtain ⟨x, hx, rfl⟩ := List.mem_map.mp he
    exact M.ends x hx
  exact ⟨⟨M.T, C.good⟩, fun i j hi hj h => C.like i j _ _ (at_of (d := Tm.num 0) hi) (at_of (d := Tm.num 0) hj) h⟩
section
variable {P : Program} {w : World} {K : PySem.W.Frag} {mg : Str → Option Value} {base : Heap}
abbrev sLaw : Stmt := top 42
abbrev nLaw : List Str := ["script", "terms", "edges", "leads", "costs", "table", "price", "k", "found", "tree", "own", "arm"]
theorem sc_law : FnScope nLaw ["script"] (defScope sLaw) := ⟨rfl, rfl, rfl, by decide +kernel, rfl, by decide +kernel, by decide +kernel⟩
def spLaw (c : Ct) : ASp := fun ws G K _ => ∃ (a : Addr) (ns : List Int), ws = [.ref a] ∧ Scr c G a ns ∧ ns.length ≤ 63 ∧ (∀ n ∈ ns, BitsOk n) ∧ K (.bl true) G
def prB (ls : List Nat) (B0 : Nat → Nat) (i : Nat) : Nat → Option W := fun j => if j < i ∧ Lf ls j = j then some (.int (B0 j : Nat)) else none
theorem ok_law {f : Addr} {fd : FuncData} (F : Fun K "law" "law" sLaw f fd) (B : Bl mg) (CMd : Cal P w K mg base "_law_made" 4 ["script"] (spMd ⟨P, w, K⟩)) (CCl : Cal P w K mg base "closed" 3 ["terms", "edges"] spClosed) (CCs : Cal P w K mg base "_law_costs" 2 ["script", "terms"] (spCs ⟨P, w, K⟩)) (CTb : Cal P w K mg base "_law_table" 2 ["terms", "leads"] spTb)
    (CCh : Cal P w K mg base "cheapest" 4 ["terms", "leads", "costs", "k"] spCh) (CTr : Cal P w K mg base "_law_tree" 4 ["choice", "terms", "leads"] spTr) (CSm : Cal P w K mg base "_law_small" 2 ["choice", "terms", "leads"] spSm) (CC : Cal P w K mg base "_law_class" 19 ["tree", "table"] (spCl 18)) (CSu : Cal P w K mg base "_law_sum" 21 ["tree", "costs"] (spSu 18))
    (CSf : Cal P w K mg base "_law_shared_fine" 20 ["terms", "leads", "costs", "k", "found", "tree", "table"] spSf) (CLc : Cal P w K mg base "_law_cost" 2 ["term", "costs"] spLc) (CLa : Cal P w K mg base "_law_arms" 1 ["term"] spLa) : FnOk P w K mg base CX0 22 f fd ["script"] (low ⟨P, w, K⟩ (spLaw ⟨P, w, K⟩)) := by
  refine fnA_of F sc_law (fun ws G Kc KE ⟨a, ns, e, _⟩ => by rw [e]; rfl) fun cdv A outer s H E ws G Kc KE hr ⟨a, ns, e, hA, hn, hbits, kk⟩ => ?_
  subst e
  have hr20 : Room 20 _ := hr.mono (by decide)
  have hr19 : Room 19 _ := hr.mono (by decide)
  have hr4 : Room 4 _ := hr.mono (by decide)
  have hr3 : Room 3 _ := hr.mono (by decide)
  have hr2 : Room 2 _ := hr.mono (by decide)
  have hr1 : Room 1 _ := hr.mono (by decide)
  refine s_cons (s_asg (q_cal CMd hr4 (a_cons (qv 0 rfl (a_nil ⟨a, ns, rfl, hA, hn, hbits, fun ts es M hne => ?_⟩)))))
  refine g_tup rfl (gs_cons (g_name (i := 1) sc_law.nd (gs_cons (g_name (i := 2) sc_law.nd (gs_nil ?_)))))
  obtain ⟨O, cg⟩ := lsOk_closed M
  refine s_cons (s_set (i := 3) sc_law.nd (q_cal CCl hr3 (a_cons (q_list B.list (a_cons (qv 1 rfl (a_nil (fList_ls (xs := tW ts) rfl fun a1 ha1 => ?_))))))))
  refine a_cons (q_list B.list (a_cons (qv 2 rfl (a_nil (fList_ls (xs := eW es) rfl fun b1 hb1 => ?_)))))
  obtain ⟨hb10, hba⟩ := aup_free hb1
  refine a_nil ⟨.ref a1, .ref b1, ts, es, rfl, aup_old hba.symm aup_same, aup_same, M.T, M.ends, fun lp hlp => ?_⟩
  generalize closedM ts (ends es) = ls at O cg ⊢
  refine s_frz 3 rfl aup_same ?_
  rw [adel_aup hlp]
  refine SQ.less (sub2 ha1 hb10) ?_
  have many := O.T.many
  have le18 := M.le
  refine s_cons (s_set (i := 4) sc_law.nd (q_cal CCs hr2 (a_cons (qv 0 rfl (a_cons (qv 1 rfl (a_nil ⟨a, ns, _, ts, rfl, hA, rfl, many, hne, Nat.le_trans hn (by decide), fun cp kws hcp hC => ?_⟩)))))))
  refine s_cons (s_set (i := 5) sc_law.nd (q_cal CTb hr2 (a_cons (qv 1 rfl (a_cons (qv 3 rfl (a_nil ⟨_, _, ts, ls, rfl, rfl, rfl, O, cg, fun tp tb htp TO => ?_⟩)))))))
  obtain ⟨htp0, htc⟩ := aup_free htp
  have S2 : Sub G (aup (aup G cp (.dK kws)) tp (.dN tb)) := sub2 hcp htp0
  have hD : DkA (aup (aup G cp (.dK kws)) tp (.dN tb)) (.ref cp) kws := .inl (aup_old htc.symm aup_same)
  have hB : DnA (aup (aup G cp (.dK kws)) tp (.dN tb)) (.ref tp) tb := .inl aup_same
  generalize aup (aup G cp (.dK kws)) tp (.dN tb) = G3 at S2 hD hB ⊢
  refine s_cons (s_set (i := 6) sc_law.nd (q_dnew fun pp hpp => ?_))
  have Sp : ∀ o, Sub G3 (aup G3 pp o) := fun _ => Sub.new hpp
  obtain ⟨B0, U⟩ := best_one O (c := cst kws) fun t => cst_pos hC t
  refine s_cons (s_for PassesOwn.never rfl (i_range1 rfl B.range (q_len B.len (a_cons (qv 1 rfl (a_nil (fLen_ls (xs := tW ts) rfl ?_))))) rfl))
  rw [tW_length]
  refine ⟨by omega, by omega, ?_⟩
  refine ⟨fun i ρ' G' => ∃ (pk : List (Key × W)) (v1 v2 v3 : Option W), ρ' = [some (.ref a), some (.lst (tW ts)), some (.lst (eW es)), some (.lst (nW ls)), some (.ref cp), some (.ref tp), some (.ref pp), v1, v2, v3, none, none] ∧ G' = aup G3 pp (.dK pk) ∧ DI ts.length pk (prB ls B0 i) ∧ ∀ j, j < i → isLd ts ls j → ∃ b Bf, Best ts ls (cst kws) b Bf,
    ⟨[], none, none, none, rfl, rfl, (DI.nil _).cong fun j => by unfold prB; rw [if_neg fun z => absurd z.1 (Nat.not_lt_zero _)], fun j h => absurd h (Nat.not_lt_zero _)⟩, fun _ _ _ _ _ => trivial, fun i x ρ' G' hx ⟨pk, v1, v2, v3, e1, e2, D, hb⟩ => ?_, fun ρ' G' ⟨pk, v1, v2, v3, e1, e2, D, hb⟩ => ?_⟩
  · obtain ⟨hi, rfl⟩ := rng0_item hx
    have hi : i < ts.length := by simpa using hi
    have hil : i < ls.length := by rw [O.g.len]; exact hi
    subst e1 e2
    refine g_name (i := 7) sc_law.nd ?_
    refine s_cons (s_if (b_ne (u64 hr) (q_ix (qv 3 rfl (qv 7 rfl (fIx_ls (xs := nW ls) rfl (nW_at hil) ?_))))))
    refine qv 7 rfl (ifB_ndec (fun hne => ?_) (fun heq => ?_))
    · have nl : ¬ Lf ls i = i := fun z => hne (by show ((Lf ls i : Nat) : Int) = i; omega)
      refine s_cons (s_cont ⟨pk, _, _, _, rfl, rfl, D.cong fun j => ?_, fun j hj hl => ?_⟩)
      · unfold prB
        by_cases c : j = i
        · subst c; rw [if_neg fun z => nl z.2, if_neg fun z => nl z.2]
        · by_cases c2 : j < i ∧ Lf ls j = j
          · rw [if_pos c2, if_pos ⟨by omega, c2.2⟩]
          · rw [if_neg c2, if_neg fun z => c2 ⟨by omega, z.2⟩]
      · rcases Nat.lt_succ_iff_lt_or_eq.mp hj with h | h
        · exact hb j h hl
        · subst h; exact absurd hl.2 nl
    have hk2 : Lf ls i = i := by
      have : ((Lf ls i : Nat) : Int) = i := heq
      omega
    have hk : isLd ts ls i := ⟨hi, hk2⟩
    refine s_nil ?_
    refine s_cons (s_set (i := 8) sc_law.nd (q_cal CCh hr4 (a_cons (q_list B.list (a_cons (qv 1 rfl (a_nil (fList_ls (xs := tW ts) rfl fun a1 ha => ?_))))))))
    refine a_cons (q_list B.list (a_cons (qv 3 rfl (a_nil (fList_ls (xs := nW ls) rfl fun b1 hb' => ?_)))))
    obtain ⟨hb0, hba⟩ := aup_free hb'
    refine a_cons (q_dictD B.dict (a_cons (qv 4 rfl (a_nil ⟨_, kws, rfl, ((hD.new hpp).new ha).new hb', fun c1 hc => ?_⟩))))
    obtain ⟨hc1, hcb⟩ := aup_free hc
    obtain ⟨hc0, hca⟩ := aup_free hc1
    refine a_cons (qv 7 rfl (a_nil ⟨.ref a1, .ref b1, .ref c1, ts, ls, kws, i, rfl, aup_old hca.symm (aup_old hba.symm aup_same), aup_old hcb.symm aup_same, .inl aup_same, hC, O, hi, fun Bf p ord CR => ?_⟩))
    rw [hk2] at CR
    rw [hk2]
    refine SQ.less ((sub2 ha hb0).trans (Sub.new hc)) ?_
    obtain ⟨c1', hBp⟩ := cheap_cho O CR hk
    obtain ⟨S0, T0, hS0, hT0⟩ := c1'.ex
    have tp' : TrP ts ls p ord i tb kws T0 := c1'.trP M TO hT0
    have sm := c1'.sum (kws := kws) hT0 hBp i c1'.od.mem
    obtain ⟨bb, be⟩ := CR.best
    have eB : Bf i = B0 i := U bb Bf be i hk
    refine s_cons (s_asg (q_ix (qv 8 rfl (q_int ?_))))
    refine fIx_tup (v := .int (Bf i : Nat)) rfl ?_
    refine g_dput (u64 hr) (qv 6 rfl (qv 7 rfl ⟨pk, _, aup_same, keyW_nat _, D.small (by omega), ?_⟩))
    rw [aup_aup]
    have D2 : DI ts.length (AL.pk pk (.inl (i : Int)) (.int (Bf i : Nat))) (prB ls B0 (i + 1)) := (D.put hi (.int (Bf i : Nat))).cong fun j => by
      unfold prB
      by_cases c : j = i
      · subst c; rw [if_pos rfl, if_pos ⟨by omega, hk2⟩, eB]
      · rw [if_neg c]
        by_cases c2 : j < i ∧ Lf ls j = j
        · rw [if_pos c2, if_pos ⟨by omega, c2.2⟩]
        · rw [if_neg c2, if_neg fun z => c2 ⟨by omega, z.2⟩]
    have hb2 : ∀ j, j < i + 1 → isLd ts ls j → ∃ b Bf, Best ts ls (cst kws) b Bf := fun j _ _ => ⟨bb, Bf, be⟩
    clear D hb
    generalize AL.pk pk (.inl (i : Int)) (.int (Bf i : Nat)) = pk2 at D2 ⊢
    have S4 : Sub G3 (aup G3 pp (.dK pk2)) := Sp _
    have fin : ∀ v1 v2 v3, ∃ (pk : List (Key × W)) (u1 u2 u3 : Option W), [some (W.ref a), some (.lst (tW ts)), some (.lst (eW es)), some (.lst (nW ls)), some (.ref cp), some (.ref tp), some (.ref pp), v1, v2, v3, none, none] = [some (.ref a), some (.lst (tW ts)), some (.lst (eW es)), some (.lst (nW ls)), some (.ref cp), some (.ref tp), some (.ref pp), u1, u2, u3, none, none] ∧ aup G3 pp (.dK pk2) = aup G3 pp (.dK pk) ∧ DI ts.length pk (prB ls B0 (i + 1)) ∧ ∀ j, j < i + 1 → isLd ts ls j → ∃ b Bf, Best ts ls (cst kws) b Bf := fun v1 v2 v3 => ⟨pk2, v1, v2, v3, rfl, rfl, D2, hb2⟩
    have SG : Sub G (aup G3 pp (.dK pk2)) := S2.trans S4
    have hD4 := hD.sub S4
    have hB4 := hB.sub S4
    generalize aup G3 pp (.dK pk2) = G4 at S4 fin SG hD4 hB4 ⊢
    have OI : OIn G4 (.lst (tW ts)) (.lst (nW ls)) (.lst (rwW p ord)) ts ls p ord := ⟨rfl, rfl, rfl, O, c1'.od.top, fun y hy => let ⟨h1, m, h2, h3, _⟩ := c1'.pk y hy; ⟨h1, m, h2, h3⟩⟩
    refine s_cons (s_cut (P := fun ρ2 G2 => ∃ v, ρ2 = [some (.ref a), some (.lst (tW ts)), some (.lst (eW es)), some (.lst (nW ls)), some (.ref cp), some (.ref tp), some (.ref pp), some (.int i), some (.tup [.int (Bf i : Nat), .lst (rwW p ord)]), some v, none, none] ∧ G2 = G4 ∧ ((bigS (S0 i) ∧ v = .non) ∨ (¬ bigS (S0 i) ∧ v = (T0 i).W))) ?_ ?_)
    · refine s_set (i := 9) sc_law.nd (q_cal CTr hr4 (a_cons (q_ix (qv 8 rfl (q_int ?_)))))
      refine fIx_tup (v := .lst (rwW p ord)) rfl ?_
      refine a_cons (qv 1 rfl (a_cons (qv 3 rfl (a_nil ⟨_, _, _, ts, ls, p, ord, S0, T0, i, rfl, OI, hS0, hT0, c1'.od.last, fun hb => ?_, fun hb => ?_⟩))))
      · exact ⟨_, rfl, rfl, .inl ⟨hb, rfl⟩⟩
      · exact ⟨_, rfl, rfl, .inr ⟨hb, rfl⟩⟩
    rintro ρ2 G2 ⟨v, rfl, rfl, hv⟩
    refine s_cons (s_if (BQ.mono (K := fun d G' => d = false ∧ G2 = G') ?_ fun d G' ⟨e1, e2⟩ => ?_))
    · refine b_eq (u64 hr) (q_is (qv 9 rfl (q_non ?_)))
      have go : ∀ bv : Bool, (bv = true ↔ bigS (S0 i)) → ∀ b : Bool, (b = true ↔ ¬ bigS (S0 i)) → tst (fun d G' => d = false ∧ G2 = G') (.bl (decide (bv = b))) G2 := fun bv h1 b h2 => by
        refine ⟨decide_eq_false fun z => ?_, rfl⟩
        subst z
        cases bv with
        | true => exact h2.mp rfl (h1.mp rfl)
        | false => exact absurd (h2.mpr fun z => absurd (h1.mpr z) (by decide)) (by decide)
      rcases hv with ⟨hb, rfl⟩ | ⟨hb, rfl⟩
      · refine q_cal CSm hr2 (a_cons (q_ix (qv 8 rfl (q_int ?_))))
        refine fIx_tup (v := .lst (rwW p ord)) rfl ?_
        exact a_cons (qv 1 rfl (a_cons (qv 3 rfl (a_nil ⟨_, _, _, ts, ls, p, ord, S0, i, rfl, OI, hS0, c1'.od.last, fun b h2 => go true ⟨fun _ => hb, fun _ => rfl⟩ b h2⟩))))
      · refine fIs_tr ?_
        refine q_cal CSm hr2 (a_cons (q_ix (qv 8 rfl (q_int ?_))))
        refine fIx_tup (v := .lst (rwW p ord)) rfl ?_
        exact a_cons (qv 1 rfl (a_cons (qv 3 rfl (a_nil ⟨_, _, _, ts, ls, p, ord, S0, i, rfl, OI, hS0, c1'.od.last, fun b h2 => go false ⟨(fun z => by cases z), fun z => absurd z hb⟩ b h2⟩))))
    subst e1 e2
    refine ifF (s_nil ?_)
    refine s_cons (s_if (BQ.mono (K := fun d G' => d = false ∧ G2 = G') ?_ fun d G' ⟨e1, e2⟩ => ?_))
    · refine WQ.test (w_and (b_isn (qv 9 rfl (q_non ?_))))
      rcases hv with ⟨hb, rfl⟩ | ⟨hb, rfl⟩
      · exact ifF ⟨rfl, rfl⟩
      · refine fIs_tr (ifT (w_and1 (b_ne (u64 hr) (q_cal CC hr19 (a_cons (qv 9 rfl (a_cons (qv 5 rfl (a_nil ⟨T0 i, tp, tb, rfl, hB4, TO.v, tp'.okT i c1'.od.mem, ?_⟩)))))))))
        rw [tp'.cls i c1'.od.mem]
        exact qv 7 rfl (fNe_same (i := (i : Int)) ⟨rfl, rfl⟩)
    subst e1 e2
    refine ifF (s_nil ?_)
    refine s_cons (s_if (BQ.mono (K := fun d G' => d = false ∧ G2 = G') ?_ fun d G' ⟨e1, e2⟩ => ?_))
    · refine WQ.test (w_and (b_isn (qv 9 rfl (q_non ?_))))
      rcases hv with ⟨hb, rfl⟩ | ⟨hb, rfl⟩
      · exact ifF ⟨rfl, rfl⟩
      · refine fIs_tr (ifT (w_and1 (b_ne (u64 hr) (q_cal CSu hr (a_cons (qv 9 rfl (a_cons (qv 4 rfl (a_nil ⟨T0 i, _, kws, rfl, hD4, hC, tp'.okT i c1'.od.mem, ?_⟩)))))))))
        rw [sm]
        refine q_ix (qv 8 rfl (q_int ?_))
        refine fIx_tup (v := .int (Bf i : Nat)) rfl ?_
        exact fNe_same (i := (Bf i : Int)) ⟨rfl, rfl⟩
    subst e1 e2
    refine ifF (s_nil ?_)
    refine s_cons (s_if (b_gt (q_add (qv 7 rfl (q_int ?_)))))
    refine q_len B.len (a_cons (qv 1 rfl (a_nil (fLen_ls (xs := tW ts) rfl ?_))))
    refine ifB_dec (fun _ => ?_) (fun _ => s_nil (s_nil (fin _ _ _)))
    refine s_cons (s_if (b_not (b_val (q_cal CSf hr20 (a_cons (qv 1 rfl (a_cons (qv 3 rfl (a_cons (qv 4 rfl (a_cons (qv 7 rfl (a_cons (q_ix (qv 8 rfl (q_int ?_))))))))))))))))
    refine fIx_tup (v := .int (Bf i : Nat)) rfl ?_
    refine a_cons (qv 9 rfl (a_cons (qv 5 rfl (a_nil ⟨_, _, _, ts, es, ls, kws, i, Bf, p, ord, v, tp, tb, rfl, rfl, rfl, hD4, hC, O, cg, M, TO, hB4, hk, CR, ?_, ?_⟩))))
    · rcases hv with ⟨hb, rfl⟩ | ⟨hb, rfl⟩
      · exact .inl rfl
      · exact .inr ⟨T0, tp', rfl⟩
    · exact ifF (s_nil (s_nil (s_nil (fin _ _ _))))
  · rw [rngW_length] at D hb
    have e0 : ((ts.length : Nat) : Int).toNat = ts.length := Int.toNat_natCast _
    rw [e0] at D hb
    subst e1 e2
    have SG : Sub G (aup G3 pp (.dK pk)) := S2.trans (Sp _)
    have hD4 := hD.sub (Sp (.dK pk))
    have hP : DkA (aup G3 pp (.dK pk)) (.ref pp) pk := .inl aup_same
    generalize aup G3 pp (.dK pk) = G4 at SG hD4 hP ⊢
    refine s_cons (s_for PassesOwn.never rfl (i_range1 rfl B.range (q_len B.len (a_cons (qv 1 rfl (a_nil (fLen_ls (xs := tW ts) rfl ?_))))) rfl))
    rw [tW_length]
    refine ⟨by omega, by omega, ?_⟩
    refine ⟨fun i ρ' G' => ∃ (v1 v2 v3 v4 v5 : Option W), ρ' = [some (.ref a), some (.lst (tW ts)), some (.lst (eW es)), some (.lst (nW ls)), some (.ref cp), some (.ref tp), some (.ref pp), v1, v2, v3, v4, v5] ∧ G4 = G', ⟨v1, v2, v3, none, none, rfl, rfl⟩, fun _ _ _ _ _ => trivial, fun i x ρ' G' hx ⟨v1, v2, v3, v4, v5, e1, e2⟩ => ?_, fun ρ' G' ⟨v1, v2, v3, v4, v5, e1, e2⟩ => ?_⟩
    · obtain ⟨hi, rfl⟩ := rng0_item hx
      have hi : i < ts.length := by simpa using hi
      have hil : i < ls.length := by rw [O.g.len]; exact hi
      have tm : ts[i]? = some (tmAt ts i) := at_of (d := Tm.num 0) hi
      obtain ⟨ar1, ar2⟩ := mk_arms O.T (ls := ls) O.g.len tm
      have ld : ∀ k, k < ts.length → isLd ts ls (Lf ls k) := fun k hk => ld_of O hk
      obtain ⟨bb, Bf, be⟩ := hb (Lf ls i) (ld i hi).1 (ld i hi)
      have look : ∀ k, k < ts.length → lk pk (.inl ((Lf ls k : Nat) : Int)) = some (.int (B0 (Lf ls k) : Nat)) := fun k hk => by
        rw [D.get]
        unfold prB
        rw [if_pos ⟨(ld k hk).1, (ld k hk).2⟩]
      subst e1 e2
      refine g_name (i := 7) sc_law.nd ?_
      refine s_cons (s_set (i := 10) sc_law.nd (q_cal CLc hr2 (a_cons (q_ix (qv 1 rfl (qv 7 rfl (fIx_ls (xs := tW ts) rfl (tW_at tm) ?_)))))))
      refine a_cons (qv 4 rfl (a_nil ⟨_, _, _, kws, rfl, kyW_tm _, hD4, hC, ?_⟩))
      rw [← cst_K]
      let as := arms (tmAt ts i)
      refine s_cons (s_for PassesOwn.never rfl (i_list (q_cal CLa hr1 (a_cons (q_ix (qv 1 rfl (qv 7 rfl (fIx_ls (xs := tW ts) rfl (tW_at tm) ?_))))))))
      refine a_nil ⟨_, nW as, rfl, arW_tm _, ⟨nW as, rfl, ?_⟩⟩
      refine ⟨fun j ρ' G' => ∃ v5, ρ' = [some (.ref a), some (.lst (tW ts)), some (.lst (eW es)), some (.lst (nW ls)), some (.ref cp), some (.ref tp), some (.ref pp), some (.int i), v2, v3, some (.int (cst kws (tmAt ts i) + ((as.take j).map fun b => B0 (Lf ls b)).sum : Nat)), v5] ∧ G4 = G', ⟨v5, ?_, rfl⟩, fun _ _ _ _ _ => rfl, fun j z ρ' G' hz ⟨v5, e1, e2⟩ => ?_, fun ρ' G' ⟨v5, e1, e2⟩ => ?_⟩
      · simp
      · obtain ⟨b, hbj, rfl⟩ := nW_item hz
        subst e1 e2
        have hbm : b ∈ arms (tmAt ts i) := List.mem_of_getElem? hbj
        have hbl := ar1 b hbm
        have tk : as.take (j + 1) = as.take j ++ [b] := by rw [List.take_succ]; show _ ++ (arms (tmAt ts i))[j]?.toList = _; rw [hbj]; rfl
        refine g_name (i := 11) sc_law.nd ?_
        refine s_cons (s_set (i := 10) sc_law.nd (q_add (qv 10 rfl (q_dget (u64 hr) (qv 6 rfl (q_ix (qv 3 rfl (qv 11 rfl (fIx_ls (xs := nW ls) rfl (nW_at hbl) ?_)))))))))
        refine ⟨pk, _, _, hP, keyW_nat _, look b (by rw [← O.g.len]; exact hbl), ?_⟩
        refine s_nil ⟨some (.int (b : Nat)), ?_, rfl⟩
        rw [tk, List.map_append, List.sum_append]
        have e1 : ((cst kws (tmAt ts i) + ((as.take j).map fun b => B0 (Lf ls b)).sum : Nat) : Int) + ((B0 (Lf ls b) : Nat) : Int) = ((cst kws (tmAt ts i) + (((as.take j).map fun b => B0 (Lf ls b)).sum + ([b].map fun b => B0 (Lf ls b)).sum) : Nat) : Int) := by
          show _ = ((_ + (_ + (B0 (Lf ls b) + 0)) : Nat) : Int)
          omega
        rw [← e1]
        rfl
      · have tl : as.take (nW as).length = as := by rw [nW_length, List.take_length]
        have e1 : ρ' = [some (.ref a), some (.lst (tW ts)), some (.lst (eW es)), some (.lst (nW ls)), some (.ref cp), some (.ref tp), some (.ref pp), some (.int i), v2, v3, some (.int (cst kws (tmAt ts i) + ((as.take (nW as).length).map fun b => B0 (Lf ls b)).sum : Nat)), v5] := e1
        rw [tl] at e1
        subst e1 e2
        refine s_cons (s_if (b_lt (qv 10 rfl (q_dget (u64 hr) (qv 6 rfl (q_ix (qv 3 rfl (qv 7 rfl (fIx_ls (xs := nW ls) rfl (nW_at hil) ?_)))))))))
        refine ⟨pk, _, _, hP, keyW_nat _, look i hi, ?_⟩
        have le : B0 (Lf ls i) ≤ cst kws (tmAt ts i) + (as.map fun b => B0 (Lf ls b)).sum := by
          have h1 := be.le i hi
          rw [U bb Bf be _ (ld i hi)] at h1
          refine Nat.le_trans h1 ?_
          unfold prN
          refine Nat.add_le_add_left (sum_le_map fun b hb' => ?_) _
          rw [U bb Bf be _ (ld b (by rw [← O.g.len]; exact ar1 b hb'))]
          exact Nat.le_refl _
        exact ifB_dec (fun h => absurd h (by omega)) (fun _ => s_nil (s_nil ⟨_, _, _, _, _, rfl, rfl⟩))
    · subst e1 e2
      exact s_cons (s_ret (q_bl ⟨G, SG, kk⟩))
end
end SW
namespace SW
open PySem PySem.Spec L2 AL
/-- an error of the class at S is what «except S» names -/
theorem exm_self {K : PySem.W.Frag} {S : Addr} (h1 : PySem.W.subIn K (.ref S) (.type "BaseException") = some true) (h2 : PySem.W.isClsIn K S = true) (h3 : PySem.W.typeIn K (.ref S) = some (.type "type")) (h4 : PySem.W.subIn K (.ref S) (.ref S) = some true) :
    PySem.W.exmOne K (.ref S) (.ref S) = some true := by
  have e1 : (PySem.W.subIn K (.ref S) (.type "BaseException") == some true) = true := by rw [h1] <;> rfl
  have e2 : ((PySem.W.clsIn K S).isSome && PySem.W.typeIn K (.ref S) == some (.type "type")) = true := by
    have h2' : (PySem.W.clsIn K S).isSome = true := h2
    rw [h2', h3] <;> rfl
  show (if (PySem.W.subIn K (.ref S) (.type "BaseException") == some true) = true then (if ((PySem.W.clsIn K S).isSome && PySem.W.typeIn K (.ref S) == some (.type "type")) = true then PySem.W.subIn K (.ref S) (.ref S) else none) else none) = some true
  rw [if_pos e1, if_pos e2]
  exact h4
theorem law_low {c : Ct} {H : Hp} {a : Addr} {ns : List Int} (hn : ns.length ≤ 63) (hb : ∀ z ∈ ns, Builtin.Int.intBits z ≤ 1048576) (hO : Only H) (hS : SqL c.K H a (ns.map V.int)) : low c (spLaw c) [.ref a] H (fun v _ => v = .bl true) fun _ _ _ => False := by
  have fin : ∀ G : AH, RG c H G → Scr c G a ns → low c (spLaw c) [.ref a] H (fun v _ => v = .bl true) fun _ _ _ => False := fun G g s =>
    ⟨[.ref a], G, fun w _ => w = .bl true, noE, .cons (show RV H (.ref a) (.ref a) from rfl) RVs.nil, g, ⟨a, ns, rfl, s, hn, hb, rfl⟩, fun v H' ⟨w, G', _, r, _, e⟩ => by subst e; exact r, fun _ _ _ ⟨_, _, _, z⟩ => z⟩
  rcases hS with h | h
  · refine fin (fun b => if b = a then some (.fro (ns.map W.int)) else none) (fun b o e => ?_) (.inl (if_pos rfl))
    have e : (if b = a then some (AO.fro (ns.map W.int)) else none) = some o := e
    by_cases q : b = a
    · subst q
      rw [if_pos rfl] at e
      cases e
      exact ⟨_, h, RVs.ints ns⟩
    · rw [if_neg q] at e; cases e
  · exact fin (fun _ => none) (fun _ _ e => by cases e) (.inr fun _ => .inr h)
end SW
namespace SW
open PySem PySem.Spec L2 AL
set_option maxHeartbeats 0 in
theorem all_mk {l : PySem.W.OpenLaw} {w : World} {K : PySem.W.Frag} {h : Heap} {mg : Str → Option Value} {fa f0 f1 f2 f3 f4 f5 f6 f7 f8 f9 f10 f11 f12 f13 f14 f15 f16 f17 f18 f19 f20 f21 f22 f23 f24 f25 f26 f27 f28 f29 f30 f31 f32 f33 f34 ATooBig ATooWide : Addr} (X : K.In h) (G : h.Ns mainGlobals mg) (hfa : mg "law" = some (.ref fa))
    {od0 an0 od1 an1 od2 an2 od3 an3 od4 an4 od5 an5 od6 an6 od7 an7 od8 an8 od9 an9 od10 an10 od11 an11 od12 an12 od13 an13 od14 an14 od15 an15 od16 an16 od17 an17 od18 an18 od19 an19 od20 an20 od21 an21 od22 an22 od23 an23 od24 an24 od25 an25 od26 an26 od27 an27 od28 an28 od29 an29 od30 an30 od31 an31 od32 an32 od33 an33 od34 an34 : Option Addr} {sl0 sl1 sl2 sl3 sl4 sl5 sl6 sl7 sl8 sl9 sl10 sl11 sl12 sl13 sl14 sl15 sl16 sl17 sl18 sl19 sl20 sl21 sl22 sl23 sl24 sl25 sl26 sl27 sl28 sl29 sl30 sl31 sl32 sl33 sl34 : Array (Option Value)} {oc0 kV0 dc0 pm0 cd0 ct0 oc1 kV1 dc1 pm1 cd1 ct1 oc2 kV2 dc2 pm2 cd2 ct2 oc3 kV3 dc3 pm3 cd3 ct3 oc4 kV4 dc4 pm4 cd4 ct4 oc5 kV5 dc5 pm5 cd5 ct5 oc6 kV6 dc6 pm6 cd6 ct6 oc7 kV7 dc7 pm7 cd7 ct7 oc8 kV8 dc8 pm8 cd8 ct8 oc9 kV9 dc9 pm9 cd9 ct9 oc10 kV10 dc10 pm10 cd10 ct10 oc11 kV11 dc11 pm11 cd11 ct11 oc12 kV12 dc12 pm12 cd12 ct12 oc13 kV13 dc13 pm13 cd13 ct13 oc14 kV14 dc14 pm14 cd14 ct14 oc15 kV15 dc15 pm15 cd15 ct15 oc16 kV16 dc16 pm16 cd16 ct16 oc17 kV17 dc17 pm17 cd17 ct17 oc18 kV18 dc18 pm18 cd18 ct18 oc19 kV19 dc19 pm19 cd19 ct19 oc20 kV20 dc20 pm20 cd20 ct20 oc21 kV21 dc21 pm21 cd21 ct21 oc22 kV22 dc22 pm22 cd22 ct22 oc23 kV23 dc23 pm23 cd23 ct23 oc24 kV24 dc24 pm24 cd24 ct24 oc25 kV25 dc25 pm25 cd25 ct25 oc26 kV26 dc26 pm26 cd26 ct26 oc27 kV27 dc27 pm27 cd27 ct27 oc28 kV28 dc28 pm28 cd28 ct28 oc29 kV29 dc29 pm29 cd29 ct29 oc30 kV30 dc30 pm30 cd30 ct30 oc31 kV31 dc31 pm31 cd31 ct31 oc32 kV32 dc32 pm32 cd32 ct32 oc33 kV33 dc33 pm33 cd33 ct33 oc34 kV34 dc34 pm34 cd34 ct34 : Value}
    (a0 : PySem.W.nsIn K mainGlobals "cost_of" = some (some (.ref f0))) (l0 : K.lookup f0 = some ⟨oc0, od0, .func (PySem.W.fnOf "cost_of" "cost_of" (defArgs sCost) (defBody sCost) (defScope sCost) .none kV0 dc0 pm0 an0 cd0 ct0), sl0⟩) (c0 : PySem.W.codeIn K cd0 "cost_of" = true) (k0 : PySem.W.keepIn K (.ref f0) = true)
    (a1 : PySem.W.nsIn K mainGlobals "arms_of" = some (some (.ref f1))) (l1 : K.lookup f1 = some ⟨oc1, od1, .func (PySem.W.fnOf "arms_of" "arms_of" (defArgs sArms) (defBody sArms) (defScope sArms) .none kV1 dc1 pm1 an1 cd1 ct1), sl1⟩) (c1 : PySem.W.codeIn K cd1 "arms_of" = true) (k1 : PySem.W.keepIn K (.ref f1) = true)
    (a2 : PySem.W.nsIn K mainGlobals "price_by" = some (some (.ref f2))) (l2 : K.lookup f2 = some ⟨oc2, od2, .func (PySem.W.fnOf "price_by" "price_by" (defArgs sPb) (defBody sPb) (defScope sPb) .none kV2 dc2 pm2 an2 cd2 ct2), sl2⟩) (c2 : PySem.W.codeIn K cd2 "price_by" = true) (k2 : PySem.W.keepIn K (.ref f2) = true)
    (a3 : PySem.W.nsIn K mainGlobals "best_prices" = some (some (.ref f3))) (l3 : K.lookup f3 = some ⟨oc3, od3, .func (PySem.W.fnOf "best_prices" "best_prices" (defArgs sBp) (defBody sBp) (defScope sBp) .none kV3 dc3 pm3 an3 cd3 ct3), sl3⟩) (c3 : PySem.W.codeIn K cd3 "best_prices" = true) (k3 : PySem.W.keepIn K (.ref f3) = true)
    (a4 : PySem.W.nsIn K mainGlobals "needed_leads" = some (some (.ref f4))) (l4 : K.lookup f4 = some ⟨oc4, od4, .func (PySem.W.fnOf "needed_leads" "needed_leads" (defArgs sNl) (defBody sNl) (defScope sNl) .none kV4 dc4 pm4 an4 cd4 ct4), sl4⟩) (c4 : PySem.W.codeIn K cd4 "needed_leads" = true) (k4 : PySem.W.keepIn K (.ref f4) = true)
    (a5 : PySem.W.nsIn K mainGlobals "rows_by" = some (some (.ref f5))) (l5 : K.lookup f5 = some ⟨oc5, od5, .func (PySem.W.fnOf "rows_by" "rows_by" (defArgs sRb) (defBody sRb) (defScope sRb) .none kV5 dc5 pm5 an5 cd5 ct5), sl5⟩) (c5 : PySem.W.codeIn K cd5 "rows_by" = true) (k5 : PySem.W.keepIn K (.ref f5) = true)
    (a6 : PySem.W.nsIn K mainGlobals "cheapest" = some (some (.ref f6))) (l6 : K.lookup f6 = some ⟨oc6, od6, .func (PySem.W.fnOf "cheapest" "cheapest" (defArgs sCh) (defBody sCh) (defScope sCh) .none kV6 dc6 pm6 an6 cd6 ct6), sl6⟩) (c6 : PySem.W.codeIn K cd6 "cheapest" = true) (k6 : PySem.W.keepIn K (.ref f6) = true)
    (a7 : PySem.W.nsIn K mainGlobals "sizes_by" = some (some (.ref f7))) (l7 : K.lookup f7 = some ⟨oc7, od7, .func (PySem.W.fnOf "sizes_by" "sizes_by" (defArgs sSz) (defBody sSz) (defScope sSz) .none kV7 dc7 pm7 an7 cd7 ct7), sl7⟩) (c7 : PySem.W.codeIn K cd7 "sizes_by" = true) (k7 : PySem.W.keepIn K (.ref f7) = true)
    (a8 : PySem.W.nsIn K mainGlobals "taken" = some (some (.ref f8))) (l8 : K.lookup f8 = some ⟨oc8, od8, .func (PySem.W.fnOf "taken" "taken" (defArgs sTk) (defBody sTk) (defScope sTk) .none kV8 dc8 pm8 an8 cd8 ct8), sl8⟩) (c8 : PySem.W.codeIn K cd8 "taken" = true) (k8 : PySem.W.keepIn K (.ref f8) = true)
    (a9 : PySem.W.nsIn K mainGlobals "mark" = some (some (.ref f9))) (l9 : K.lookup f9 = some ⟨oc9, od9, .func (PySem.W.fnOf "mark" "mark" (defArgs sMark) (defBody sMark) (defScope sMark) .none kV9 dc9 pm9 an9 cd9 ct9), sl9⟩) (c9 : PySem.W.codeIn K cd9 "mark" = true) (k9 : PySem.W.keepIn K (.ref f9) = true)
    (a10 : PySem.W.nsIn K mainGlobals "unite" = some (some (.ref f10))) (l10 : K.lookup f10 = some ⟨oc10, od10, .func (PySem.W.fnOf "unite" "unite" (defArgs sUnite) (defBody sUnite) (defScope sUnite) .none kV10 dc10 pm10 an10 cd10 ct10), sl10⟩) (c10 : PySem.W.codeIn K cd10 "unite" = true) (k10 : PySem.W.keepIn K (.ref f10) = true)
    (a11 : PySem.W.nsIn K mainGlobals "unite_like" = some (some (.ref f11))) (l11 : K.lookup f11 = some ⟨oc11, od11, .func (PySem.W.fnOf "unite_like" "unite_like" (defArgs sUl) (defBody sUl) (defScope sUl) .none kV11 dc11 pm11 an11 cd11 ct11), sl11⟩) (c11 : PySem.W.codeIn K cd11 "unite_like" = true) (k11 : PySem.W.keepIn K (.ref f11) = true)
    (a12 : PySem.W.nsIn K mainGlobals "closed" = some (some (.ref f12))) (l12 : K.lookup f12 = some ⟨oc12, od12, .func (PySem.W.fnOf "closed" "closed" (defArgs sClosed) (defBody sClosed) (defScope sClosed) .none kV12 dc12 pm12 an12 cd12 ct12), sl12⟩) (c12 : PySem.W.codeIn K cd12 "closed" = true) (k12 : PySem.W.keepIn K (.ref f12) = true)
    (a13 : PySem.W.nsIn K mainGlobals "nodes" = some (some (.ref f13))) (l13 : K.lookup f13 = some ⟨oc13, od13, .func (PySem.W.fnOf "nodes" "nodes" (defArgs sNd) (defBody sNd) (defScope sNd) .none kV13 dc13 pm13 an13 cd13 ct13), sl13⟩) (c13 : PySem.W.codeIn K cd13 "nodes" = true) (k13 : PySem.W.keepIn K (.ref f13) = true)
    (a14 : PySem.W.nsIn K mainGlobals "reached" = some (some (.ref f14))) (l14 : K.lookup f14 = some ⟨oc14, od14, .func (PySem.W.fnOf "reached" "reached" (defArgs sRe) (defBody sRe) (defScope sRe) .none kV14 dc14 pm14 an14 cd14 ct14), sl14⟩) (c14 : PySem.W.codeIn K cd14 "reached" = true) (k14 : PySem.W.keepIn K (.ref f14) = true)
    (a15 : PySem.W.nsIn K mainGlobals "ways_of" = some (some (.ref f15))) (l15 : K.lookup f15 = some ⟨oc15, od15, .func (PySem.W.fnOf "ways_of" "ways_of" (defArgs sWo) (defBody sWo) (defScope sWo) .none kV15 dc15 pm15 an15 cd15 ct15), sl15⟩) (c15 : PySem.W.codeIn K cd15 "ways_of" = true) (k15 : PySem.W.keepIn K (.ref f15) = true)
    (a16 : PySem.W.nsIn K mainGlobals "picks_by" = some (some (.ref f16))) (l16 : K.lookup f16 = some ⟨oc16, od16, .func (PySem.W.fnOf "picks_by" "picks_by" (defArgs sPk) (defBody sPk) (defScope sPk) .none kV16 dc16 pm16 an16 cd16 ct16), sl16⟩) (c16 : PySem.W.codeIn K cd16 "picks_by" = true) (k16 : PySem.W.keepIn K (.ref f16) = true)
    (a17 : PySem.W.nsIn K mainGlobals "sharing" = some (some (.ref f17))) (l17 : K.lookup f17 = some ⟨oc17, od17, .func (PySem.W.fnOf "sharing" "sharing" (defArgs sSh) (defBody sSh) (defScope sSh) .none kV17 dc17 pm17 an17 cd17 ct17), sl17⟩) (c17 : PySem.W.codeIn K cd17 "sharing" = true) (k17 : PySem.W.keepIn K (.ref f17) = true)
    (a18 : PySem.W.nsIn K mainGlobals "_law_word" = some (some (.ref f18))) (l18 : K.lookup f18 = some ⟨oc18, od18, .func (PySem.W.fnOf "_law_word" "_law_word" (defArgs sWd) (defBody sWd) (defScope sWd) .none kV18 dc18 pm18 an18 cd18 ct18), sl18⟩) (c18 : PySem.W.codeIn K cd18 "_law_word" = true) (k18 : PySem.W.keepIn K (.ref f18) = true)
    (a19 : PySem.W.nsIn K mainGlobals "_law_number" = some (some (.ref f19))) (l19 : K.lookup f19 = some ⟨oc19, od19, .func (PySem.W.fnOf "_law_number" "_law_number" (defArgs sNu) (defBody sNu) (defScope sNu) .none kV19 dc19 pm19 an19 cd19 ct19), sl19⟩) (c19 : PySem.W.codeIn K cd19 "_law_number" = true) (k19 : PySem.W.keepIn K (.ref f19) = true)
    (a20 : PySem.W.nsIn K mainGlobals "_law_knot" = some (some (.ref f20))) (l20 : K.lookup f20 = some ⟨oc20, od20, .func (PySem.W.fnOf "_law_knot" "_law_knot" (defArgs sKn) (defBody sKn) (defScope sKn) .none kV20 dc20 pm20 an20 cd20 ct20), sl20⟩) (c20 : PySem.W.codeIn K cd20 "_law_knot" = true) (k20 : PySem.W.keepIn K (.ref f20) = true)
    (a21 : PySem.W.nsIn K mainGlobals "_law_term" = some (some (.ref f21))) (l21 : K.lookup f21 = some ⟨oc21, od21, .func (PySem.W.fnOf "_law_term" "_law_term" (defArgs sTe) (defBody sTe) (defScope sTe) .none kV21 dc21 pm21 an21 cd21 ct21), sl21⟩) (c21 : PySem.W.codeIn K cd21 "_law_term" = true) (k21 : PySem.W.keepIn K (.ref f21) = true)
    (a22 : PySem.W.nsIn K mainGlobals "_law_made" = some (some (.ref f22))) (l22 : K.lookup f22 = some ⟨oc22, od22, .func (PySem.W.fnOf "_law_made" "_law_made" (defArgs sMd) (defBody sMd) (defScope sMd) .none kV22 dc22 pm22 an22 cd22 ct22), sl22⟩) (c22 : PySem.W.codeIn K cd22 "_law_made" = true) (k22 : PySem.W.keepIn K (.ref f22) = true)
    (a23 : PySem.W.nsIn K mainGlobals "_law_key" = some (some (.ref f23))) (l23 : K.lookup f23 = some ⟨oc23, od23, .func (PySem.W.fnOf "_law_key" "_law_key" (defArgs sKy) (defBody sKy) (defScope sKy) .none kV23 dc23 pm23 an23 cd23 ct23), sl23⟩) (c23 : PySem.W.codeIn K cd23 "_law_key" = true) (k23 : PySem.W.keepIn K (.ref f23) = true)
    (a24 : PySem.W.nsIn K mainGlobals "_law_costs" = some (some (.ref f24))) (l24 : K.lookup f24 = some ⟨oc24, od24, .func (PySem.W.fnOf "_law_costs" "_law_costs" (defArgs sCs) (defBody sCs) (defScope sCs) .none kV24 dc24 pm24 an24 cd24 ct24), sl24⟩) (c24 : PySem.W.codeIn K cd24 "_law_costs" = true) (k24 : PySem.W.keepIn K (.ref f24) = true)
    (a25 : PySem.W.nsIn K mainGlobals "_law_cost" = some (some (.ref f25))) (l25 : K.lookup f25 = some ⟨oc25, od25, .func (PySem.W.fnOf "_law_cost" "_law_cost" (defArgs sLc) (defBody sLc) (defScope sLc) .none kV25 dc25 pm25 an25 cd25 ct25), sl25⟩) (c25 : PySem.W.codeIn K cd25 "_law_cost" = true) (k25 : PySem.W.keepIn K (.ref f25) = true)
    (a26 : PySem.W.nsIn K mainGlobals "_law_arms" = some (some (.ref f26))) (l26 : K.lookup f26 = some ⟨oc26, od26, .func (PySem.W.fnOf "_law_arms" "_law_arms" (defArgs sLa) (defBody sLa) (defScope sLa) .none kV26 dc26 pm26 an26 cd26 ct26), sl26⟩) (c26 : PySem.W.codeIn K cd26 "_law_arms" = true) (k26 : PySem.W.keepIn K (.ref f26) = true)
    (a27 : PySem.W.nsIn K mainGlobals "_law_table" = some (some (.ref f27))) (l27 : K.lookup f27 = some ⟨oc27, od27, .func (PySem.W.fnOf "_law_table" "_law_table" (defArgs sTb) (defBody sTb) (defScope sTb) .none kV27 dc27 pm27 an27 cd27 ct27), sl27⟩) (c27 : PySem.W.codeIn K cd27 "_law_table" = true) (k27 : PySem.W.keepIn K (.ref f27) = true)
    (a28 : PySem.W.nsIn K mainGlobals "_law_class" = some (some (.ref f28))) (l28 : K.lookup f28 = some ⟨oc28, od28, .func (PySem.W.fnOf "_law_class" "_law_class" (defArgs sCl) (defBody sCl) (defScope sCl) .none kV28 dc28 pm28 an28 cd28 ct28), sl28⟩) (c28 : PySem.W.codeIn K cd28 "_law_class" = true) (k28 : PySem.W.keepIn K (.ref f28) = true)
    (a29 : PySem.W.nsIn K mainGlobals "_law_sum" = some (some (.ref f29))) (l29 : K.lookup f29 = some ⟨oc29, od29, .func (PySem.W.fnOf "_law_sum" "_law_sum" (defArgs sSu) (defBody sSu) (defScope sSu) .none kV29 dc29 pm29 an29 cd29 ct29), sl29⟩) (c29 : PySem.W.codeIn K cd29 "_law_sum" = true) (k29 : PySem.W.keepIn K (.ref f29) = true)
    (a30 : PySem.W.nsIn K mainGlobals "_law_once" = some (some (.ref f30))) (l30 : K.lookup f30 = some ⟨oc30, od30, .func (PySem.W.fnOf "_law_once" "_law_once" (defArgs sOn) (defBody sOn) (defScope sOn) .none kV30 dc30 pm30 an30 cd30 ct30), sl30⟩) (c30 : PySem.W.codeIn K cd30 "_law_once" = true) (k30 : PySem.W.keepIn K (.ref f30) = true)
    (a31 : PySem.W.nsIn K mainGlobals "_law_small" = some (some (.ref f31))) (l31 : K.lookup f31 = some ⟨oc31, od31, .func (PySem.W.fnOf "_law_small" "_law_small" (defArgs sSm) (defBody sSm) (defScope sSm) .none kV31 dc31 pm31 an31 cd31 ct31), sl31⟩) (c31 : PySem.W.codeIn K cd31 "_law_small" = true) (k31 : PySem.W.keepIn K (.ref f31) = true)
    (a32 : PySem.W.nsIn K mainGlobals "_law_tree" = some (some (.ref f32))) (l32 : K.lookup f32 = some ⟨oc32, od32, .func (PySem.W.fnOf "_law_tree" "_law_tree" (defArgs sTr) (defBody sTr) (defScope sTr) .none kV32 dc32 pm32 an32 cd32 ct32), sl32⟩) (c32 : PySem.W.codeIn K cd32 "_law_tree" = true) (k32 : PySem.W.keepIn K (.ref f32) = true)
    (a33 : PySem.W.nsIn K mainGlobals "_law_shared_fine" = some (some (.ref f33))) (l33 : K.lookup f33 = some ⟨oc33, od33, .func (PySem.W.fnOf "_law_shared_fine" "_law_shared_fine" (defArgs sSf) (defBody sSf) (defScope sSf) .none kV33 dc33 pm33 an33 cd33 ct33), sl33⟩) (c33 : PySem.W.codeIn K cd33 "_law_shared_fine" = true) (k33 : PySem.W.keepIn K (.ref f33) = true)
    (a34 : PySem.W.nsIn K mainGlobals "law" = some (some (.ref f34))) (l34 : K.lookup f34 = some ⟨oc34, od34, .func (PySem.W.fnOf "law" "law" (defArgs sLaw) (defBody sLaw) (defScope sLaw) .none kV34 dc34 pm34 an34 cd34 ct34), sl34⟩) (c34 : PySem.W.codeIn K cd34 "law" = true) (k34 : PySem.W.keepIn K (.ref f34) = true)
    (xaTooBig : PySem.W.nsIn K mainGlobals "TooBig" = some (some (.ref ATooBig))) (xxTooBig : PySem.W.excIn K ATooBig [.type "ValueError", .type "Exception", .type "BaseException", .type "object"] "ValueError.__new__" = true) (xkTooBig : PySem.W.keepIn K (.ref ATooBig) = true) (xbTooBig : PySem.W.subIn K (.ref ATooBig) (.type "BaseException") = some true) (xtTooBig : PySem.W.typeIn K (.ref ATooBig) = some (.type "type")) (xiTooBig : PySem.W.isClsIn K ATooBig = true) (xsTooBig : PySem.W.subIn K (.ref ATooBig) (.ref ATooBig) = some true)
    (xaTooWide : PySem.W.nsIn K mainGlobals "TooWide" = some (some (.ref ATooWide))) (xxTooWide : PySem.W.excIn K ATooWide [.type "ValueError", .type "Exception", .type "BaseException", .type "object"] "ValueError.__new__" = true) (xkTooWide : PySem.W.keepIn K (.ref ATooWide) = true) (xbTooWide : PySem.W.subIn K (.ref ATooWide) (.type "BaseException") = some true) (xtTooWide : PySem.W.typeIn K (.ref ATooWide) = some (.type "type")) (xiTooWide : PySem.W.isClsIn K ATooWide = true) (xsTooWide : PySem.W.subIn K (.ref ATooWide) (.ref ATooWide) = some true)
    (z_len : PySem.W.nsIn K mainGlobals "len" = some none)
    (z_min : PySem.W.nsIn K mainGlobals "min" = some none)
    (z_max : PySem.W.nsIn K mainGlobals "max" = some none)
    (z_range : PySem.W.nsIn K mainGlobals "range" = some none)
    (z_list : PySem.W.nsIn K mainGlobals "list" = some none)
    (z_tuple : PySem.W.nsIn K mainGlobals "tuple" = some none)
    (z_zip : PySem.W.nsIn K mainGlobals "zip" = some none)
    (z_abs : PySem.W.nsIn K mainGlobals "abs" = some none)
    (z_int : PySem.W.nsIn K mainGlobals "int" = some none)
    (z_divmod : PySem.W.nsIn K mainGlobals "divmod" = some none)
    (z_enumerate : PySem.W.nsIn K mainGlobals "enumerate" = some none)
    (z_any : PySem.W.nsIn K mainGlobals "any" = some none)
    (z_all : PySem.W.nsIn K mainGlobals "all" = some none)
    (z_sum : PySem.W.nsIn K mainGlobals "sum" = some none)
    (z_reversed : PySem.W.nsIn K mainGlobals "reversed" = some none)
    (z_dict : PySem.W.nsIn K mainGlobals "dict" = some none)
    (z_sorted : PySem.W.nsIn K mainGlobals "sorted" = some none)
    (z_isinstance : PySem.W.nsIn K mainGlobals "isinstance" = some none)
    (z_repr : PySem.W.nsIn K mainGlobals "repr" = some none)
    (z_str : PySem.W.nsIn K mainGlobals "str" = some none)
    (z_bool : PySem.W.nsIn K mainGlobals "bool" = some none)
    : ∃ fd : FuncData, (∀ (s : Shared) (v : Value), BindsTo s fd ⟨[v], []⟩ [("script", v)]) ∧ ∀ base : Heap, K.In base → base.Ns mainGlobals mg → FnOk l.prog w K mg base CX0 22 fa fd ["script"] (low ⟨l.prog, w, K⟩ (spLaw ⟨l.prog, w, K⟩)) := by
  have e := hfa.symm.trans (PySem.W.mg_of X G a34)
  cases e
  have B : Bl mg := ⟨PySem.W.mg_none_of X G z_len, PySem.W.mg_none_of X G z_min, PySem.W.mg_none_of X G z_max, PySem.W.mg_none_of X G z_range, PySem.W.mg_none_of X G z_list, PySem.W.mg_none_of X G z_tuple, PySem.W.mg_none_of X G z_zip, PySem.W.mg_none_of X G z_abs, PySem.W.mg_none_of X G z_int, PySem.W.mg_none_of X G z_divmod, PySem.W.mg_none_of X G z_enumerate, PySem.W.mg_none_of X G z_any, PySem.W.mg_none_of X G z_all, PySem.W.mg_none_of X G z_sum, PySem.W.mg_none_of X G z_reversed, PySem.W.mg_none_of X G z_dict, PySem.W.mg_none_of X G z_sorted, PySem.W.mg_none_of X G z_isinstance, PySem.W.mg_none_of X G z_repr, PySem.W.mg_none_of X G z_str, PySem.W.mg_none_of X G z_bool⟩
  have TTooBig : ExcT K mg "TooBig" ATooBig := ⟨xxTooBig, PySem.W.mg_of X G xaTooBig, xkTooBig, xbTooBig, xtTooBig, exm_self xbTooBig xiTooBig xtTooBig xsTooBig⟩
  have TTooWide : ExcT K mg "TooWide" ATooWide := ⟨xxTooWide, PySem.W.mg_of X G xaTooWide, xkTooWide, xbTooWide, xtTooWide, exm_self xbTooWide xiTooWide xtTooWide xsTooWide⟩
  refine ⟨PySem.W.fnOf "law" "law" (defArgs sLaw) (defBody sLaw) (defScope sLaw) .none kV34 dc34 pm34 an34 cd34 ct34, fun s v => .of_eq rfl, fun base _ _ => ?_⟩
  have F0 := fun_mk (st := sCost) l0 c0 k0
  have b0 := F0.binds (ps := ["term", "costs"]) fun _ _ _ _ _ _ us hl => match us, hl with | [_, _], _ => rfl
  have C0 : Cal l.prog w K mg base "cost_of" 1 ["term", "costs"] (spCost) := ⟨⟨_, _, ok_cost F0 , PySem.W.mg_of X G a0, k0, b0⟩⟩
  have F1 := fun_mk (st := sArms) l1 c1 k1
  have b1 := F1.binds (ps := ["term"]) fun _ _ _ _ _ _ us hl => match us, hl with | [_], _ => rfl
  have C1 : Cal l.prog w K mg base "arms_of" 1 ["term"] (spArms) := ⟨⟨_, _, ok_arms F1 , PySem.W.mg_of X G a1, k1, b1⟩⟩
  have F2 := fun_mk (st := sPb) l2 c2 k2
  have b2 := F2.binds (ps := ["term", "leads", "costs", "best"]) fun _ _ _ _ _ _ us hl => match us, hl with | [_, _, _, _], _ => rfl
  have C2 : Cal l.prog w K mg base "price_by" 2 ["term", "leads", "costs", "best"] (spPb) := ⟨⟨_, _, ok_pb F2 B C0 C1, PySem.W.mg_of X G a2, k2, b2⟩⟩
  have F3 := fun_mk (st := sBp) l3 c3 k3
  have b3 := F3.binds (ps := ["terms", "leads", "costs"]) fun _ _ _ _ _ _ us hl => match us, hl with | [_, _, _], _ => rfl
  have C3 : Cal l.prog w K mg base "best_prices" 3 ["terms", "leads", "costs"] (spBp) := ⟨⟨_, _, ok_bp F3 B C2, PySem.W.mg_of X G a3, k3, b3⟩⟩
  have F4 := fun_mk (st := sNl) l4 c4 k4
  have b4 := F4.binds (ps := ["terms", "leads", "picks", "lead"]) fun _ _ _ _ _ _ us hl => match us, hl with | [_, _, _, _], _ => rfl
  have C4 : Cal l.prog w K mg base "needed_leads" 2 ["terms", "leads", "picks", "lead"] (spNl) := ⟨⟨_, _, ok_nl F4 B C1, PySem.W.mg_of X G a4, k4, b4⟩⟩
  have F5 := fun_mk (st := sRb) l5 c5 k5
  have b5 := F5.binds (ps := ["terms", "leads", "picks", "lead"]) fun _ _ _ _ _ _ us hl => match us, hl with | [_, _, _, _], _ => rfl
  have C5 : Cal l.prog w K mg base "rows_by" 3 ["terms", "leads", "picks", "lead"] (spRb) := ⟨⟨_, _, ok_rb F5 B C1 C4, PySem.W.mg_of X G a5, k5, b5⟩⟩
  have F6 := fun_mk (st := sCh) l6 c6 k6
  have b6 := F6.binds (ps := ["terms", "leads", "costs", "k"]) fun _ _ _ _ _ _ us hl => match us, hl with | [_, _, _, _], _ => rfl
  have C6 : Cal l.prog w K mg base "cheapest" 4 ["terms", "leads", "costs", "k"] (spCh) := ⟨⟨_, _, ok_ch F6 B C3 C2 C5, PySem.W.mg_of X G a6, k6, b6⟩⟩
  have F7 := fun_mk (st := sSz) l7 c7 k7
  have b7 := F7.binds (ps := ["terms", "leads", "choice"]) fun _ _ _ _ _ _ us hl => match us, hl with | [_, _, _], _ => rfl
  have C7 : Cal l.prog w K mg base "sizes_by" 2 ["terms", "leads", "choice"] (spSz) := ⟨⟨_, _, ok_sz F7 B C1, PySem.W.mg_of X G a7, k7, b7⟩⟩
  have F8 := fun_mk (st := sTk) l8 c8 k8
  have b8 := F8.binds (ps := ["terms", "leads", "choice"]) fun _ _ _ _ _ _ us hl => match us, hl with | [_, _, _], _ => rfl
  have C8 : CalX l.prog w K mg base "taken" 3 ["terms", "leads", "choice"] (spTk ATooBig) := ⟨⟨_, _, ok_tk F8 B TTooBig C7, PySem.W.mg_of X G a8, k8, b8⟩⟩
  have F9 := fun_mk (st := sMark) l9 c9 k9
  have b9 := F9.binds (ps := ["term", "leads"]) fun _ _ _ _ _ _ us hl => match us, hl with | [_, _], _ => rfl
  have C9 : Cal l.prog w K mg base "mark" 1 ["term", "leads"] (spMark) := ⟨⟨_, _, ok_mark F9 B, PySem.W.mg_of X G a9, k9, b9⟩⟩
  have F10 := fun_mk (st := sUnite) l10 c10 k10
  have b10 := F10.binds (ps := ["leads", "one", "other"]) fun _ _ _ _ _ _ us hl => match us, hl with | [_, _, _], _ => rfl
  have C10 : Cal l.prog w K mg base "unite" 1 ["leads", "one", "other"] (spUnite) := ⟨⟨_, _, ok_unite F10 B, PySem.W.mg_of X G a10, k10, b10⟩⟩
  have F11 := fun_mk (st := sUl) l11 c11 k11
  have b11 := F11.binds (ps := ["terms", "leads"]) fun _ _ _ _ _ _ us hl => match us, hl with | [_, _], _ => rfl
  have C11 : Cal l.prog w K mg base "unite_like" 2 ["terms", "leads"] (spUl) := ⟨⟨_, _, ok_ul F11 B C9 C10, PySem.W.mg_of X G a11, k11, b11⟩⟩
  have F12 := fun_mk (st := sClosed) l12 c12 k12
  have b12 := F12.binds (ps := ["terms", "edges"]) fun _ _ _ _ _ _ us hl => match us, hl with | [_, _], _ => rfl
  have C12 : Cal l.prog w K mg base "closed" 3 ["terms", "edges"] (spClosed) := ⟨⟨_, _, ok_closed F12 B C10 C11, PySem.W.mg_of X G a12, k12, b12⟩⟩
  have F13 := fun_mk (st := sNd) l13 c13 k13
  have b13 := F13.binds (ps := ["terms", "leads"]) fun _ _ _ _ _ _ us hl => match us, hl with | [_, _], _ => rfl
  have C13 : Cal l.prog w K mg base "nodes" 2 ["terms", "leads"] (spNd) := ⟨⟨_, _, ok_nd F13 B C9, PySem.W.mg_of X G a13, k13, b13⟩⟩
  have F14 := fun_mk (st := sRe) l14 c14 k14
  have b14 := F14.binds (ps := ["terms", "leads", "table", "lead"]) fun _ _ _ _ _ _ us hl => match us, hl with | [_, _, _, _], _ => rfl
  have C14 : Cal l.prog w K mg base "reached" 2 ["terms", "leads", "table", "lead"] (spRe) := ⟨⟨_, _, ok_re F14 B C1, PySem.W.mg_of X G a14, k14, b14⟩⟩
  have F15 := fun_mk (st := sWo) l15 c15 k15
  have b15 := F15.binds (ps := ["table", "classes"]) fun _ _ _ _ _ _ us hl => match us, hl with | [_, _], _ => rfl
  have C15 : Cal l.prog w K mg base "ways_of" 1 ["table", "classes"] (spWo) := ⟨⟨_, _, ok_wo F15 B, PySem.W.mg_of X G a15, k15, b15⟩⟩
  have F16 := fun_mk (st := sPk) l16 c16 k16
  have b16 := F16.binds (ps := ["table", "classes", "way"]) fun _ _ _ _ _ _ us hl => match us, hl with | [_, _, _], _ => rfl
  have C16 : Cal l.prog w K mg base "picks_by" 1 ["table", "classes", "way"] (spPk) := ⟨⟨_, _, ok_pk F16 B, PySem.W.mg_of X G a16, k16, b16⟩⟩
  have F17 := fun_mk (st := sSh) l17 c17 k17
  have b17 := F17.binds (ps := ["terms", "leads", "costs", "k"]) fun _ _ _ _ _ _ us hl => match us, hl with | [_, _, _, _], _ => rfl
  have C17 : CalX l.prog w K mg base "sharing" 4 ["terms", "leads", "costs", "k"] (spSh ATooWide) := ⟨⟨_, _, ok_sh F17 B TTooWide C13 C14 C15 C16 C5 C0, PySem.W.mg_of X G a17, k17, b17⟩⟩
  have F18 := fun_mk (st := sWd) l18 c18 k18
  have b18 := F18.binds (ps := ["cell", "head"]) fun _ _ _ _ _ _ us hl => match us, hl with | [_, _], _ => rfl
  have C18 : Cal l.prog w K mg base "_law_word" 1 ["cell", "head"] (spWd) := ⟨⟨_, _, ok_wd F18 , PySem.W.mg_of X G a18, k18, b18⟩⟩
  have F19 := fun_mk (st := sNu) l19 c19 k19
  have b19 := F19.binds (ps := ["cell"]) fun _ _ _ _ _ _ us hl => match us, hl with | [_], _ => rfl
  have C19 : Cal l.prog w K mg base "_law_number" 1 ["cell"] (spNu) := ⟨⟨_, _, ok_nu F19 , PySem.W.mg_of X G a19, k19, b19⟩⟩
  have F20 := fun_mk (st := sKn) l20 c20 k20
  have b20 := F20.binds (ps := ["cell", "many", "head"]) fun _ _ _ _ _ _ us hl => match us, hl with | [_, _, _], _ => rfl
  have C20 : Cal l.prog w K mg base "_law_knot" 2 ["cell", "many", "head"] (spKn) := ⟨⟨_, _, ok_kn F20 B C18, PySem.W.mg_of X G a20, k20, b20⟩⟩
  have F21 := fun_mk (st := sTe) l21 c21 k21
  have b21 := F21.binds (ps := ["cell", "many", "head"]) fun _ _ _ _ _ _ us hl => match us, hl with | [_, _, _], _ => rfl
  have C21 : Cal l.prog w K mg base "_law_term" 3 ["cell", "many", "head"] (spTe) := ⟨⟨_, _, ok_te F21 C18 C19 C20, PySem.W.mg_of X G a21, k21, b21⟩⟩
  have F22 := fun_mk (st := sMd) l22 c22 k22
  have b22 := F22.binds (ps := ["script"]) fun _ _ _ _ _ _ us hl => match us, hl with | [_], _ => rfl
  have C22 : Cal l.prog w K mg base "_law_made" 4 ["script"] (spMd ⟨l.prog, w, K⟩) := ⟨⟨_, _, ok_md F22 B C21, PySem.W.mg_of X G a22, k22, b22⟩⟩
  have F23 := fun_mk (st := sKy) l23 c23 k23
  have b23 := F23.binds (ps := ["term"]) fun _ _ _ _ _ _ us hl => match us, hl with | [_], _ => rfl
  have C23 : Cal l.prog w K mg base "_law_key" 1 ["term"] (spKy) := ⟨⟨_, _, ok_ky F23 , PySem.W.mg_of X G a23, k23, b23⟩⟩
  have F24 := fun_mk (st := sCs) l24 c24 k24
  have b24 := F24.binds (ps := ["script", "terms"]) fun _ _ _ _ _ _ us hl => match us, hl with | [_, _], _ => rfl
  have C24 : Cal l.prog w K mg base "_law_costs" 2 ["script", "terms"] (spCs ⟨l.prog, w, K⟩) := ⟨⟨_, _, ok_cs F24 B C23, PySem.W.mg_of X G a24, k24, b24⟩⟩
  have F25 := fun_mk (st := sLc) l25 c25 k25
  have b25 := F25.binds (ps := ["term", "costs"]) fun _ _ _ _ _ _ us hl => match us, hl with | [_, _], _ => rfl
  have C25 : Cal l.prog w K mg base "_law_cost" 2 ["term", "costs"] (spLc) := ⟨⟨_, _, ok_lc F25 C23, PySem.W.mg_of X G a25, k25, b25⟩⟩
  have F26 := fun_mk (st := sLa) l26 c26 k26
  have b26 := F26.binds (ps := ["term"]) fun _ _ _ _ _ _ us hl => match us, hl with | [_], _ => rfl
  have C26 : Cal l.prog w K mg base "_law_arms" 1 ["term"] (spLa) := ⟨⟨_, _, ok_la F26 B, PySem.W.mg_of X G a26, k26, b26⟩⟩
  have F27 := fun_mk (st := sTb) l27 c27 k27
  have b27 := F27.binds (ps := ["terms", "leads"]) fun _ _ _ _ _ _ us hl => match us, hl with | [_, _], _ => rfl
  have C27 : Cal l.prog w K mg base "_law_table" 2 ["terms", "leads"] (spTb) := ⟨⟨_, _, ok_tb F27 B C26, PySem.W.mg_of X G a27, k27, b27⟩⟩
  have F28 := fun_mk (st := sCl) l28 c28 k28
  have b28 := F28.binds (ps := ["tree", "table"]) fun _ _ _ _ _ _ us hl => match us, hl with | [_, _], _ => rfl
  have C28 : Cal l.prog w K mg base "_law_class" 19 ["tree", "table"] (spCl 18) := ⟨⟨_, _, ok_cl F28 B (PySem.W.mg_of X G a28) k28 b28 18, PySem.W.mg_of X G a28, k28, b28⟩⟩
  have F29 := fun_mk (st := sSu) l29 c29 k29
  have b29 := F29.binds (ps := ["tree", "costs"]) fun _ _ _ _ _ _ us hl => match us, hl with | [_, _], _ => rfl
  have C29 : Cal l.prog w K mg base "_law_sum" 21 ["tree", "costs"] (spSu 18) := ⟨⟨_, _, ok_su F29 B C25 C26 (PySem.W.mg_of X G a29) k29 b29 18, PySem.W.mg_of X G a29, k29, b29⟩⟩
  have F30 := fun_mk (st := sOn) l30 c30 k30
  have b30 := F30.binds (ps := ["tree", "costs"]) fun _ _ _ _ _ _ us hl => match us, hl with | [_, _], _ => rfl
  have C30 : Cal l.prog w K mg base "_law_once" 3 ["tree", "costs"] (spOn) := ⟨⟨_, _, ok_on F30 B C25 C26, PySem.W.mg_of X G a30, k30, b30⟩⟩
  have F31 := fun_mk (st := sSm) l31 c31 k31
  have b31 := F31.binds (ps := ["choice", "terms", "leads"]) fun _ _ _ _ _ _ us hl => match us, hl with | [_, _, _], _ => rfl
  have C31 : Cal l.prog w K mg base "_law_small" 2 ["choice", "terms", "leads"] (spSm) := ⟨⟨_, _, ok_sm F31 B C26, PySem.W.mg_of X G a31, k31, b31⟩⟩
  have F32 := fun_mk (st := sTr) l32 c32 k32
  have b32 := F32.binds (ps := ["choice", "terms", "leads"]) fun _ _ _ _ _ _ us hl => match us, hl with | [_, _, _], _ => rfl
  have C32 : Cal l.prog w K mg base "_law_tree" 4 ["choice", "terms", "leads"] (spTr) := ⟨⟨_, _, ok_tr F32 B TTooBig C8, PySem.W.mg_of X G a32, k32, b32⟩⟩
  have F33 := fun_mk (st := sSf) l33 c33 k33
  have b33 := F33.binds (ps := ["terms", "leads", "costs", "k", "found", "tree", "table"]) fun _ _ _ _ _ _ us hl => match us, hl with | [_, _, _, _, _, _, _], _ => rfl
  have C33 : Cal l.prog w K mg base "_law_shared_fine" 20 ["terms", "leads", "costs", "k", "found", "tree", "table"] (spSf) := ⟨⟨_, _, ok_sf F33 B TTooWide C17 C32 C31 C28 C30, PySem.W.mg_of X G a33, k33, b33⟩⟩
  have F34 := fun_mk (st := sLaw) l34 c34 k34
  exact ok_law F34 B C22 C12 C24 C27 C6 C32 C31 C28 C29 C33 C25 C26
theorem walk {l : PySem.W.OpenLaw} {q : Program} {loose : List Str} {XP : (Str → Option Value) → Heap → Prop} {YP : World → Heap → Prop} {d : DefRec} {K : Params → PySem.W.Frag} (hn : l.most = some 63) (hdf : d.params.defaults = [])
    (hY : ∀ (w : World) (h : Heap), YP w h → (K w.params).In h)
    (F : ∀ (w : World) (mg : Str → Option Value) (fa : Addr) (h : Heap), (K w.params).In h → h.Ns mainGlobals mg → mg d.name = some (.ref fa) →
      ∃ fd : FuncData, (∀ (s : Shared) (u : Value), BindsTo s fd ⟨[u], []⟩ [("script", u)]) ∧ ∀ base : Heap, (K w.params).In base → base.Ns mainGlobals mg → FnOk l.prog w (K w.params) mg base CX0 22 fa fd ["script"] (low ⟨l.prog, w, K w.params⟩ (spLaw ⟨l.prog, w, K w.params⟩))) :
    PySem.W.WalkO q loose XP YP l.row.toRowW d [] (fun f vs => PySem.call f vs) :=
  L2.walk_ofB (n := 63) (k := 22) (x := "script") (CX := fun _ => CX0) (sp := fun w => low ⟨l.prog, w, K w.params⟩ (spLaw ⟨l.prog, w, K w.params⟩)) hn (by decide) hdf ⟨rfl, by decide, by decide⟩ hY F (fun _ _ _ _ hl hb hO hS => law_low hl hb hO hS) fun _ _ _ _ _ z => z
end SW
open PySem PySem.W PyProof.Rows in
set_option maxRecDepth 100000 in
set_option maxHeartbeats 0 in
theorem PySem.Challenge.cw_samewise_k68_whole_taken_out_holds : PySem.Challenge.rw_samewise_k68_whole_taken_out.Holds := by
  w_on; o_law; k_head; (case hw => w_witness2)
  k_fill
  refine SW.walk (l := PySem.Challenge.rw_samewise_k68_whole_taken_out) rfl rfl (fun w h Y => PySem.W.kIn_of Y) ?F
  case F =>
    intro w mg fa h KX G hmg
    refine' SW.all_mk KX G hmg ?a0 ?l0 ?c0 ?k0 ?a1 ?l1 ?c1 ?k1 ?a2 ?l2 ?c2 ?k2 ?a3 ?l3 ?c3 ?k3 ?a4 ?l4 ?c4 ?k4 ?a5 ?l5 ?c5 ?k5 ?a6 ?l6 ?c6 ?k6 ?a7 ?l7 ?c7 ?k7 ?a8 ?l8 ?c8 ?k8 ?a9 ?l9 ?c9 ?k9 ?a10 ?l10 ?c10 ?k10 ?a11 ?l11 ?c11 ?k11 ?a12 ?l12 ?c12 ?k12 ?a13 ?l13 ?c13 ?k13 ?a14 ?l14 ?c14 ?k14 ?a15 ?l15 ?c15 ?k15 ?a16 ?l16 ?c16 ?k16 ?a17 ?l17 ?c17 ?k17 ?a18 ?l18 ?c18 ?k18 ?a19 ?l19 ?c19 ?k19 ?a20 ?l20 ?c20 ?k20 ?a21 ?l21 ?c21 ?k21 ?a22 ?l22 ?c22 ?k22 ?a23 ?l23 ?c23 ?k23 ?a24 ?l24 ?c24 ?k24 ?a25 ?l25 ?c25 ?k25 ?a26 ?l26 ?c26 ?k26 ?a27 ?l27 ?c27 ?k27 ?a28 ?l28 ?c28 ?k28 ?a29 ?l29 ?c29 ?k29 ?a30 ?l30 ?c30 ?k30 ?a31 ?l31 ?c31 ?k31 ?a32 ?l32 ?c32 ?k32 ?a33 ?l33 ?c33 ?k33 ?a34 ?l34 ?c34 ?k34 ?xaTooBig ?xxTooBig ?xkTooBig ?xbTooBig ?xtTooBig ?xiTooBig ?xsTooBig ?xaTooWide ?xxTooWide ?xkTooWide ?xbTooWide ?xtTooWide ?xiTooWide ?xsTooWide ?z_len ?z_min ?z_max ?z_range ?z_list ?z_tuple ?z_zip ?z_abs ?z_int ?z_divmod ?z_enumerate ?z_any ?z_all ?z_sum ?z_reversed ?z_dict ?z_sorted ?z_isinstance ?z_repr ?z_str ?z_bool
    (case a0 => k_is)
    (case l0 => k_is)
    (case c0 => k_is)
    (case k0 => k_is)
    (case a1 => k_is)
    (case l1 => k_is)
    (case c1 => k_is)
    (case k1 => k_is)
    (case a2 => k_is)
    (case l2 => k_is)
    (case c2 => k_is)
    (case k2 => k_is)
    (case a3 => k_is)
    (case l3 => k_is)
    (case c3 => k_is)
    (case k3 => k_is)
    (case a4 => k_is)
    (case l4 => k_is)
    (case c4 => k_is)
    (case k4 => k_is)
    (case a5 => k_is)
    (case l5 => k_is)
    (case c5 => k_is)
    (case k5 => k_is)
    (case a6 => k_is)
    (case l6 => k_is)
    (case c6 => k_is)
    (case k6 => k_is)
    (case a7 => k_is)
    (case l7 => k_is)
    (case c7 => k_is)
    (case k7 => k_is)
    (case a8 => k_is)
    (case l8 => k_is)
    (case c8 => k_is)
    (case k8 => k_is)
    (case a9 => k_is)
    (case l9 => k_is)
    (case c9 => k_is)
    (case k9 => k_is)
    (case a10 => k_is)
    (case l10 => k_is)
    (case c10 => k_is)
    (case k10 => k_is)
    (case a11 => k_is)
    (case l11 => k_is)
    (case c11 => k_is)
    (case k11 => k_is)
    (case a12 => k_is)
    (case l12 => k_is)
    (case c12 => k_is)
    (case k12 => k_is)
    (case a13 => k_is)
    (case l13 => k_is)
    (case c13 => k_is)
    (case k13 => k_is)
    (case a14 => k_is)
    (case l14 => k_is)
    (case c14 => k_is)
    (case k14 => k_is)
    (case a15 => k_is)
    (case l15 => k_is)
    (case c15 => k_is)
    (case k15 => k_is)
    (case a16 => k_is)
    (case l16 => k_is)
    (case c16 => k_is)
    (case k16 => k_is)
    (case a17 => k_is)
    (case l17 => k_is)
    (case c17 => k_is)
    (case k17 => k_is)
    (case a18 => k_is)
    (case l18 => k_is)
    (case c18 => k_is)
    (case k18 => k_is)
    (case a19 => k_is)
    (case l19 => k_is)
    (case c19 => k_is)
    (case k19 => k_is)
    (case a20 => k_is)
    (case l20 => k_is)
    (case c20 => k_is)
    (case k20 => k_is)
    (case a21 => k_is)
    (case l21 => k_is)
    (case c21 => k_is)
    (case k21 => k_is)
    (case a22 => k_is)
    (case l22 => k_is)
    (case c22 => k_is)
    (case k22 => k_is)
    (case a23 => k_is)
    (case l23 => k_is)
    (case c23 => k_is)
    (case k23 => k_is)
    (case a24 => k_is)
    (case l24 => k_is)
    (case c24 => k_is)
    (case k24 => k_is)
    (case a25 => k_is)
    (case l25 => k_is)
    (case c25 => k_is)
    (case k25 => k_is)
    (case a26 => k_is)
    (case l26 => k_is)
    (case c26 => k_is)
    (case k26 => k_is)
    (case a27 => k_is)
    (case l27 => k_is)
    (case c27 => k_is)
    (case k27 => k_is)
    (case a28 => k_is)
    (case l28 => k_is)
    (case c28 => k_is)
    (case k28 => k_is)
    (case a29 => k_is)
    (case l29 => k_is)
    (case c29 => k_is)
    (case k29 => k_is)
    (case a30 => k_is)
    (case l30 => k_is)
    (case c30 => k_is)
    (case k30 => k_is)
    (case a31 => k_is)
    (case l31 => k_is)
    (case c31 => k_is)
    (case k31 => k_is)
    (case a32 => k_is)
    (case l32 => k_is)
    (case c32 => k_is)
    (case k32 => k_is)
    (case a33 => k_is)
    (case l33 => k_is)
    (case c33 => k_is)
    (case k33 => k_is)
    (case a34 => k_is)
    (case l34 => k_is)
    (case c34 => k_is)
    (case k34 => k_is)
    (case xaTooBig => k_is)
    (case xxTooBig => k_exc)
    (case xkTooBig => k_is)
    (case xbTooBig => k_is)
    (case xtTooBig => k_is)
    (case xiTooBig => k_is)
    (case xsTooBig => first | rfl | k_is)
    (case xaTooWide => k_is)
    (case xxTooWide => k_exc)
    (case xkTooWide => k_is)
    (case xbTooWide => k_is)
    (case xtTooWide => k_is)
    (case xiTooWide => k_is)
    (case xsTooWide => first | rfl | k_is)
    (case z_len => k_is)
    (case z_min => k_is)
    (case z_max => k_is)
    (case z_range => k_is)
    (case z_list => k_is)
    (case z_tuple => k_is)
    (case z_zip => k_is)
    (case z_abs => k_is)
    (case z_int => k_is)
    (case z_divmod => k_is)
    (case z_enumerate => k_is)
    (case z_any => k_is)
    (case z_all => k_is)
    (case z_sum => k_is)
    (case z_reversed => k_is)
    (case z_dict => k_is)
    (case z_sorted => k_is)
    (case z_isinstance => k_is)
    (case z_repr => k_is)
    (case z_str => k_is)
    (case z_bool => k_is)
