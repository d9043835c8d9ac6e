import PyProof.Rows.All
import Wide.All
import OpenK.AllK
import Wide.FinOn
import HandS.ForMost
import HandS.Wide
import HandS.WideBits
import HandS.EndBits
import HandS.Zip
import HandS.Deep
import HandS.Flow
import HandS.TupAny
import HandS.Style
import HandS.Conv
import HandS.SetFor
import KE.KDictKeyed
import KE.KeyNested
import PySem.Challenge.RW_samewise_k91_alike_numbers_and_long_rows
set_option Elab.async false
set_option linter.all false
set_option maxRecDepth 100000
set_option autoImplicit false
namespace AL
open PySem PySem.Spec L2
open PyProof.Rows hiding St

/-! ### values with their tuples in them -/
inductive W where
  | non | bl (b : Bool) | int (i : Int) | str (x : Str) | ref (a : Addr) | tup (xs : List W)

mutual
def RV (H : Hp) : W → V → Prop
  | .non, v => v = .non
  | .bl b, v => v = .bl b
  | .int i, v => v = .int i
  | .str x, v => v = .str x
  | .ref a, v => v = .ref a
  | .tup ws, v => ∃ a vs, v = .ref a ∧ H a = some (.tup vs) ∧ RVs H ws vs
def RVs (H : Hp) : List W → List V → Prop
  | [], vs => vs = []
  | w :: ws, vs => ∃ v r, vs = v :: r ∧ RV H w v ∧ RVs H ws r
end
/-- tuples are kept -/
def Keep (H H' : Hp) : Prop := ∀ a vs, H a = some (.tup vs) → H' a = some (.tup vs)
theorem Keep.refl {H : Hp} : Keep H H := fun _ _ h => h
theorem Keep.trans {H H1 H2 : Hp} (a : Keep H H1) (b : Keep H1 H2) : Keep H H2 := fun x v h => b x v (a x v h)
theorem Keep.same {H H' : Hp} (h : Same H H') : Keep H H' := fun a vs e => h a _ e
theorem Same.new {H : Hp} {p : Addr} {o : HO} (h : H p = none) : Same H (upd H p o) := fun b u e => by
  rw [upd_ne (ne_of_none e h)]; exact e
theorem Keep.new {H : Hp} {p : Addr} {o : HO} (h : H p = none) : Keep H (upd H p o) := .same (Same.new h)
theorem Keep.mut {H : Hp} {p : Addr} {o u : HO} (h : H p = some u) (n : ∀ vs, u ≠ .tup vs) : Keep H (upd H p o) := fun a vs e => by
  by_cases q : a = p
  · subst q; rw [h] at e; cases e; exact absurd rfl (n vs)
  · rw [upd_ne q]; exact e
mutual
theorem RV.keep {H H' : Hp} (k : Keep H H') : ∀ (w : W) (v : V), RV H w v → RV H' w v
  | .non, _, h => h
  | .bl _, _, h => h
  | .int _, _, h => h
  | .str _, _, h => h
  | .ref _, _, h => h
  | .tup ws, _, ⟨a, vs, e, h, r⟩ => ⟨a, vs, e, k _ _ h, RVs.keep k ws vs r⟩
theorem RVs.keep {H H' : Hp} (k : Keep H H') : ∀ (ws : List W) (vs : List V), RVs H ws vs → RVs H' ws vs
  | [], _, h => h
  | w :: ws, _, ⟨v, r, e, h, t⟩ => ⟨v, r, e, RV.keep k w v h, RVs.keep k ws r t⟩
end
theorem RV.mono {H H' : Hp} {w : W} {v : V} (h : RV H w v) (k : Keep H H') : RV H' w v := RV.keep k w v h
theorem RVs.mono {H H' : Hp} {w : List W} {v : List V} (h : RVs H w v) (k : Keep H H') : RVs H' w v := RVs.keep k w v h
theorem RVs.nil {H : Hp} : RVs H [] [] := rfl
theorem RVs.cons {H : Hp} {w : W} {v : V} {ws : List W} {vs : List V} (h : RV H w v) (t : RVs H ws vs) : RVs H (w :: ws) (v :: vs) := ⟨v, vs, rfl, h, t⟩
theorem RVs.length {H : Hp} : ∀ {ws : List W} {vs : List V}, RVs H ws vs → ws.length = vs.length
  | [], vs, h => by have e : vs = [] := h; rw [e]; rfl
  | _ :: _, _, ⟨_, _, e, _, t⟩ => by rw [e, List.length_cons, List.length_cons, RVs.length t]
theorem RVs.get {H : Hp} : ∀ {ws : List W} {vs : List V} {i : Nat} {w : W}, RVs H ws vs → ws[i]? = some w → ∃ v, vs[i]? = some v ∧ RV H w v
  | [], _, _, _, _, e => by simp at e
  | _ :: _, _, 0, _, ⟨v, r, e, h, t⟩, q => by
    simp at q; subst q; subst e; exact ⟨v, rfl, h⟩
  | _ :: _, _, i + 1, _, ⟨v, r, e, h, t⟩, q => by
    subst e
    obtain ⟨v', h1, h2⟩ := RVs.get (i := i) t (by simpa using q)
    exact ⟨v', by simpa using h1, h2⟩
theorem RVs.back {H : Hp} : ∀ {ws : List W} {vs : List V} {i : Nat} {v : V}, RVs H ws vs → vs[i]? = some v → ∃ w, ws[i]? = some w ∧ RV H w v
  | [], _, _, _, h, e => by rw [show _ = [] from h] at e; simp at e
  | w :: _, _, 0, _, ⟨v, r, e, h, t⟩, q => by
    subst e; simp at q; subst q; exact ⟨w, rfl, h⟩
  | _ :: _, _, i + 1, _, ⟨v, r, e, h, t⟩, q => by
    subst e
    obtain ⟨v', h1, h2⟩ := RVs.back (i := i) t (by simpa using q)
    exact ⟨v', by simpa using h1, h2⟩
theorem RVs.set {H : Hp} {w : W} {v : V} (h : RV H w v) : ∀ {ws : List W} {vs : List V} (i : Nat), RVs H ws vs → RVs H (ws.set i w) (vs.set i v)
  | [], _, i, e => by rw [show _ = [] from e]; simp; exact RVs.nil
  | _ :: _, _, 0, ⟨_, _, e, _, t⟩ => by subst e; exact .cons h t
  | _ :: _, _, i + 1, ⟨_, _, e, h', t⟩ => by subst e; exact .cons h' (RVs.set h i t)
theorem RVs.append {H : Hp} : ∀ {ws ws' : List W} {vs vs' : List V}, RVs H ws vs → RVs H ws' vs' → RVs H (ws ++ ws') (vs ++ vs')
  | [], _, _, _, e, t => by rw [show _ = [] from e]; exact t
  | _ :: _, _, _, _, ⟨_, _, e, h, t⟩, t' => by subst e; exact .cons h (RVs.append t t')
theorem RVs.take {H : Hp} : ∀ {ws : List W} {vs : List V} (n : Nat), RVs H ws vs → RVs H (ws.take n) (vs.take n)
  | _, _, 0, _ => RVs.nil
  | [], _, _ + 1, e => by rw [show _ = [] from e]; exact RVs.nil
  | _ :: _, _, n + 1, ⟨_, _, e, h, t⟩ => by subst e; exact .cons h (RVs.take n t)
theorem RVs.drop {H : Hp} : ∀ {ws : List W} {vs : List V} (n : Nat), RVs H ws vs → RVs H (ws.drop n) (vs.drop n)
  | _, _, 0, h => h
  | [], _, _ + 1, e => by rw [show _ = [] from e]; exact RVs.nil
  | _ :: _, _, n + 1, ⟨_, _, e, h, t⟩ => by subst e; exact RVs.drop n t
theorem RVs.ints {H : Hp} : ∀ (ns : List Int), RVs H (ns.map W.int) (ns.map V.int)
  | [] => RVs.nil
  | _ :: ns => .cons rfl (RVs.ints ns)
theorem RVs.ints_eq {H : Hp} : ∀ {ns : List Int} {vs : List V}, RVs H (ns.map W.int) vs → vs = ns.map V.int
  | [], _, h => h
  | _ :: ns, _, ⟨_, _, e, h, t⟩ => by rw [e, RVs.ints_eq t, show _ = V.int _ from h]; rfl
theorem RVs.strs_eq {H : Hp} : ∀ {ns : List Str} {vs : List V}, RVs H (ns.map W.str) vs → vs = ns.map V.str
  | [], _, h => h
  | _ :: ns, _, ⟨_, _, e, h, t⟩ => by rw [e, RVs.strs_eq t, show _ = V.str _ from h]; rfl
theorem RVs.strs {H : Hp} : ∀ (ns : List Str), RVs H (ns.map W.str) (ns.map V.str)
  | [] => RVs.nil
  | _ :: ns => .cons rfl (RVs.strs ns)
theorem RVs.bls_eq {H : Hp} : ∀ {ns : List Bool} {vs : List V}, RVs H (ns.map W.bl) vs → vs = ns.map V.bl
  | [], _, h => h
  | _ :: ns, _, ⟨_, _, e, h, t⟩ => by rw [e, RVs.bls_eq t, show _ = V.bl _ from h]; rfl

/-! ### equality of values -/
mutual
def eqW : W → W → Bool
  | .non, .non => true
  | .bl a, .bl b => a == b
  | .int a, .int b => decide (a = b)
  | .str a, .str b => decide (a = b)
  | .ref a, .ref b => a == b
  | .tup a, .tup b => eqWs a b
  | .non, .bl _ | .non, .int _ | .non, .str _ | .non, .ref _ | .non, .tup _ => false
  | .bl _, .non | .bl _, .int _ | .bl _, .str _ | .bl _, .ref _ | .bl _, .tup _ => false
  | .int _, .non | .int _, .bl _ | .int _, .str _ | .int _, .ref _ | .int _, .tup _ => false
  | .str _, .non | .str _, .bl _ | .str _, .int _ | .str _, .ref _ | .str _, .tup _ => false
  | .ref _, .non | .ref _, .bl _ | .ref _, .int _ | .ref _, .str _ | .ref _, .tup _ => false
  | .tup _, .non | .tup _, .bl _ | .tup _, .int _ | .tup _, .str _ | .tup _, .ref _ => false
def eqWs : List W → List W → Bool
  | [], [] => true
  | a :: as, b :: bs => eqW a b && eqWs as bs
  | [], _ :: _ => false
  | _ :: _, [] => false
end
mutual
theorem eqW_self : ∀ a : W, eqW a a = true
  | .non => rfl
  | .bl a => by simp [eqW]
  | .int a => by simp [eqW]
  | .str a => by simp [eqW]
  | .ref a => by simp [eqW]
  | .tup a => by rw [eqW]; exact eqWs_self a
theorem eqWs_self : ∀ a : List W, eqWs a a = true
  | [] => rfl
  | a :: as => by rw [eqWs, eqW_self a, eqWs_self as]; rfl
end
mutual
theorem eq_of_eqW : ∀ a b : W, eqW a b = true → a = b
  | .non, .non, _ => rfl
  | .bl a, .bl b, h => by simp [eqW] at h; rw [h]
  | .int a, .int b, h => by simp [eqW] at h; rw [h]
  | .str a, .str b, h => by simp [eqW] at h; rw [h]
  | .ref a, .ref b, h => by simp [eqW] at h; rw [h]
  | .tup a, .tup b, h => by rw [eqW] at h; rw [eq_of_eqWs a b h]
  | .non, .bl _, h | .non, .int _, h | .non, .str _, h | .non, .ref _, h | .non, .tup _, h => by simp [eqW] at h
  | .bl _, .non, h | .bl _, .int _, h | .bl _, .str _, h | .bl _, .ref _, h | .bl _, .tup _, h => by simp [eqW] at h
  | .int _, .non, h | .int _, .bl _, h | .int _, .str _, h | .int _, .ref _, h | .int _, .tup _, h => by simp [eqW] at h
  | .str _, .non, h | .str _, .bl _, h | .str _, .int _, h | .str _, .ref _, h | .str _, .tup _, h => by simp [eqW] at h
  | .ref _, .non, h | .ref _, .bl _, h | .ref _, .int _, h | .ref _, .str _, h | .ref _, .tup _, h => by simp [eqW] at h
  | .tup _, .non, h | .tup _, .bl _, h | .tup _, .int _, h | .tup _, .str _, h | .tup _, .ref _, h => by simp [eqW] at h
theorem eq_of_eqWs : ∀ a b : List W, eqWs a b = true → a = b
  | [], [], _ => rfl
  | a :: as, b :: bs, h => by
    rw [eqWs, Bool.and_eq_true] at h
    rw [eq_of_eqW a b h.1, eq_of_eqWs as bs h.2]
  | [], _ :: _, h => by simp [eqWs] at h
  | _ :: _, [], h => by simp [eqWs] at h
end
instance : DecidableEq W := fun a b => if h : eqW a b = true then .isTrue (eq_of_eqW a b h) else .isFalse fun e => h (e ▸ eqW_self a)
theorem decW (a b : W) : decide (a = b) = eqW a b := by
  cases h : eqW a b with
  | true => exact decide_eq_true (eq_of_eqW a b h)
  | false => exact decide_eq_false fun e => by rw [e, eqW_self] at h; cases h
theorem eqW_iff {a b : W} : eqW a b = true ↔ a = b := ⟨eq_of_eqW a b, fun e => e ▸ eqW_self a⟩
end AL
namespace AL
open PySem PySem.Spec L2
open PyProof.Rows hiding St

/-! ### the abstract heap -/
inductive AO where
  | lst (ws : List W) | fro (ws : List W) | dK (kvs : List (Key × W)) | dN (kvs : List (W × W)) | ins (C dx : Addr) (fs : List (Str × W)) | xd (fs : List (Str × W))
abbrev AH := Addr → Option AO
abbrev AS := List (Option W)
def aup (G : AH) (a : Addr) (o : AO) : AH := fun b => if b = a then some o else G b
theorem aup_same {G : AH} {a : Addr} {o : AO} : aup G a o a = some o := by unfold aup; rw [if_pos rfl]
theorem aup_ne {G : AH} {a b : Addr} {o : AO} (h : b ≠ a) : aup G a o b = G b := by unfold aup; rw [if_neg h]
theorem aup_aup {G : AH} {a : Addr} {o u : AO} : aup (aup G a o) a u = aup G a u := by
  funext b; unfold aup; split <;> rfl
theorem ane_none {G : AH} {a b : Addr} {o : AO} (h : G a = some o) (h' : G b = none) : a ≠ b := by
  intro e; subst e; rw [h] at h'; cases h'
theorem ane {G : AH} {a b : Addr} {o u : AO} (h : G a = some o) (h' : G b = some u) (d : o ≠ u) : a ≠ b := by
  intro e; subst e; rw [h] at h'; exact d (Option.some.inj h')
/-- a new one does not stand in the way -/
theorem aup_new {G : AH} {a p : Addr} {o u : AO} (hp : G p = none) (h : G a = some o) : aup G p u a = some o := by
  rw [aup_ne (ane_none h hp)]; exact h
theorem aup_old {G : AH} {a p : Addr} {o u : AO} (hp : a ≠ p) (h : G a = some o) : aup G p u a = some o := by
  rw [aup_ne hp]; exact h
theorem aup_free {G : AH} {a p : Addr} {u : AO} (h : aup G p u a = none) : G a = none ∧ a ≠ p := by
  by_cases e : a = p
  · subst e; rw [aup_same] at h; cases h
  · rw [aup_ne e] at h; exact ⟨h, e⟩

structure Ct where
  P : Program
  w : World
  K : PySem.W.Frag
def cc (X : Cx) : Ct := ⟨X.prog, X.w, X.K⟩

mutual
/-- a value as a key -/
def nk : W → NestedKey
  | .non => .none
  | .bl b => .num (if b = true then 1 else 0)
  | .int i => .num i
  | .str x => .text x
  | .ref _ => .none
  | .tup ws => .tup (nks ws)
def nks : List W → List NestedKey
  | [] => []
  | w :: ws => nk w :: nks ws
end
mutual
/-- ints, texts, None, tuples of these -/
def kbl : W → Bool
  | .non => true
  | .bl _ => false
  | .int _ => true
  | .str _ => true
  | .ref _ => false
  | .tup ws => kbls ws
def kbls : List W → Bool
  | [] => true
  | w :: ws => kbl w && kbls ws
end
mutual
theorem nk_inj : ∀ a b : W, kbl a = true → kbl b = true → nk a = nk b → a = b
  | .non, .non, _, _, _ => rfl
  | .int a, .int b, _, _, h => by simp only [nk, NestedKey.num.injEq] at h; rw [h]
  | .str a, .str b, _, _, h => by simp only [nk, NestedKey.text.injEq] at h; rw [h]
  | .tup a, .tup b, ha, hb, h => by
    simp only [nk, NestedKey.tup.injEq] at h
    rw [nks_inj a b (by simpa only [kbl] using ha) (by simpa only [kbl] using hb) h]
  | .non, .int _, _, _, h | .non, .str _, _, _, h | .non, .tup _, _, _, h => by simp [nk] at h
  | .int _, .non, _, _, h | .int _, .str _, _, _, h | .int _, .tup _, _, _, h => by simp [nk] at h
  | .str _, .non, _, _, h | .str _, .int _, _, _, h | .str _, .tup _, _, _, h => by simp [nk] at h
  | .tup _, .non, _, _, h | .tup _, .int _, _, _, h | .tup _, .str _, _, _, h => by simp [nk] at h
  | .bl _, _, h, _, _ => by simp [kbl] at h
  | .ref _, _, h, _, _ => by simp [kbl] at h
  | .non, .bl _, _, h, _ | .non, .ref _, _, h, _ => by simp [kbl] at h
  | .int _, .bl _, _, h, _ | .int _, .ref _, _, h, _ => by simp [kbl] at h
  | .str _, .bl _, _, h, _ | .str _, .ref _, _, h, _ => by simp [kbl] at h
  | .tup _, .bl _, _, h, _ | .tup _, .ref _, _, h, _ => by simp [kbl] at h
theorem nks_inj : ∀ a b : List W, kbls a = true → kbls b = true → nks a = nks b → a = b
  | [], [], _, _, _ => rfl
  | a :: as, b :: bs, ha, hb, h => by
    simp only [kbls, Bool.and_eq_true] at ha hb
    simp only [nks, List.cons.injEq] at h
    rw [nk_inj a b ha.1 hb.1 h.1, nks_inj as bs ha.2 hb.2 h.2]
  | [], _ :: _, _, _, h => by simp [nks] at h
  | _ :: _, [], _, _, h => by simp [nks] at h
end

/-- a dict whose keys are nested tuples, as one object -/
def rawN (P : Program) (w : World) (a : Addr) (es : List (NestedKey × Addr × V)) : Heap → Prop := fun h =>
  es.length ≤ sizeLine ∧ (a == sysModules) = false ∧ ∃ xs : List (NestedKey × Addr × Value), Paired (fun (p : NestedKey × Addr × V) (q : NestedKey × Addr × Value) => p.1 = q.1 ∧ p.2.1 = q.2.1 ∧ RelV p.2.2 q.2.2) es xs ∧
    ∃ o es' ep, h.get? a = some o ∧ o.ExactDict ∧ o.data = .dict es' ep ∧ es'.toList = xs.map (entryOfKey (nestedKind P w)) ∧ (xs.map (·.1)).Nodup

def KWV {κ : Type} (H : Hp) : List (κ × W) → List (κ × V) → Prop := Paired fun (p : κ × W) (q : κ × V) => p.1 = q.1 ∧ RV H p.2 q.2
theorem KWV.mono {κ : Type} {H H' : Hp} {kws : List (κ × W)} {kvs : List (κ × V)} (h : KWV H kws kvs) (k : Keep H H') : KWV H' kws kvs := Paired.mapP h fun _ _ z => ⟨z.1, z.2.mono k⟩
def NWV (H : Hp) : List (W × W) → List (NestedKey × Addr × V) → Prop := Paired fun (p : W × W) (q : NestedKey × Addr × V) => q.1 = nk p.1 ∧ kbl p.1 = true ∧ (nk p.1).depth ≤ 8 ∧ RV H p.1 (.ref q.2.1) ∧ RV H p.2 q.2.2

def RO (c : Ct) (H : Hp) (a : Addr) : AO → Prop
  | .lst ws => ∃ vs, H a = some (.lst vs) ∧ RVs H ws vs
  | .fro ws => ∃ vs, Rd H a (.lst vs) ∧ RVs H ws vs
  | .dK kws => ∃ kvs, H a = some (.dK kvs) ∧ KWV H kws kvs
  | .dN kws => ∃ es, H a = some (.ext (rawN c.P c.w a es)) ∧ NWV H kws es
  | .ins C dx fs => ∃ gs, H a = some (.ins C dx gs) ∧ KWV H fs gs
  | .xd fs => ∃ gs, H a = some (.xd gs) ∧ KWV H fs gs
def RG (c : Ct) (H : Hp) (G : AH) : Prop := ∀ a o, G a = some o → RO c H a o
theorem RO.at {c : Ct} {H H' : Hp} {a : Addr} {o : AO} (h : RO c H a o) (e : H' a = H a) (k : Keep H H') : RO c H' a o := by
  cases o with
  | lst ws => obtain ⟨vs, h1, h2⟩ := h; exact ⟨vs, e.trans h1, h2.mono k⟩
  | fro ws =>
    obtain ⟨vs, h1, h2⟩ := h
    refine ⟨vs, ?_, h2.mono k⟩
    rcases h1 with h | ⟨o, h⟩
    · exact .inl (e.trans h)
    · exact .inr ⟨o, e.trans h⟩
  | dK kws => obtain ⟨vs, h1, h2⟩ := h; exact ⟨vs, e.trans h1, h2.mono k⟩
  | dN kws => obtain ⟨vs, h1, h2⟩ := h; exact ⟨vs, e.trans h1, Paired.mapP h2 fun _ _ z => ⟨z.1, z.2.1, z.2.2.1, z.2.2.2.1.mono k, z.2.2.2.2.mono k⟩⟩
  | ins C dx fs => obtain ⟨vs, h1, h2⟩ := h; exact ⟨vs, e.trans h1, h2.mono k⟩
  | xd fs => obtain ⟨vs, h1, h2⟩ := h; exact ⟨vs, e.trans h1, h2.mono k⟩
section
variable {c : Ct} {H H' : Hp} {G : AH} {a p : Addr} {o : AO} {u : HO}
theorem RO.some (h : RO c H a o) : ∃ u, H a = some u := by
  cases o with
  | lst ws => obtain ⟨vs, h1, _⟩ := h; exact ⟨_, h1⟩
  | fro ws => obtain ⟨vs, h1 | ⟨o, h1⟩, _⟩ := h <;> exact ⟨_, h1⟩
  | dK kws => obtain ⟨vs, h1, _⟩ := h; exact ⟨_, h1⟩
  | dN kws => obtain ⟨vs, h1, _⟩ := h; exact ⟨_, h1⟩
  | ins C dx fs => obtain ⟨vs, h1, _⟩ := h; exact ⟨_, h1⟩
  | xd fs => obtain ⟨vs, h1, _⟩ := h; exact ⟨_, h1⟩
theorem RG.same (r : RG c H G) (s : Same H H') (k : Keep H H') : RG c H' G := fun a o e => by
  obtain ⟨u, q⟩ := (r a o e).some
  exact (r a o e).at ((s a u q).trans q.symm) k
theorem RG.tup (r : RG c H G) (n : H p = none) : RG c (upd H p u) G := r.same (Same.new n) (Keep.new n)
/-- a new object that is tracked -/
theorem RG.new (r : RG c H G) (n : H p = none) (h : RO c (upd H p u) p o) : RG c (upd H p u) (aup G p o) := fun a o' e => by
  by_cases q : a = p
  · subst q; rw [aup_same] at e; cases e; exact h
  · rw [aup_ne q] at e; exact (r.tup n) a o' e
/-- a tracked object changes -/
theorem RG.put (r : RG c H G) (k : Keep H (upd H p u)) (h : RO c (upd H p u) p o) : RG c (upd H p u) (aup G p o) := fun a o' e => by
  by_cases q : a = p
  · subst q; rw [aup_same] at e; cases e; exact h
  · rw [aup_ne q] at e; exact (r a o' e).at (upd_ne q) k
/-- fewer known objects -/
theorem RG.less {G' : AH} (r : RG c H G) (s : ∀ a o, G' a = some o → G a = some o) : RG c H G' := fun a o e => r a o (s a o e)
end
/-- a new address is none that is known -/
theorem RG.free {c : Ct} {H : Hp} {G : AH} {p : Addr} (r : RG c H G) (n : H p = none) : G p = none := by
  cases q : G p with
  | none => rfl
  | some o =>
    obtain ⟨u, h⟩ := (r p o q).some
    rw [n] at h; cases h

/-! ### slots -/
def RS (H : Hp) (σ : St) (ρ : AS) : Prop := ρ.length = σ.length ∧ ∀ (i : Nat) (w : W), ρ[i]? = some (some w) → ∃ v, σ[i]? = some (some v) ∧ RV H w v
theorem RS.mono {H H' : Hp} {σ : St} {ρ : AS} (h : RS H σ ρ) (k : Keep H H') : RS H' σ ρ := ⟨h.1, fun i w e => let ⟨v, h1, h2⟩ := h.2 i w e; ⟨v, h1, h2.mono k⟩⟩
theorem RS.set {H : Hp} {σ : St} {ρ : AS} {w : W} {v : V} (h : RS H σ ρ) (i : Nat) (r : RV H w v) : RS H (σ.set i (some v)) (ρ.set i (some w)) := by
  refine ⟨by rw [List.length_set, List.length_set]; exact h.1, fun j w' e => ?_⟩
  by_cases q : i = j
  · subst q
    by_cases l : i < ρ.length
    · rw [List.getElem?_set_self l] at e; cases e
      exact ⟨v, by rw [List.getElem?_set_self (by rw [← h.1]; exact l)], r⟩
    · rw [List.getElem?_eq_none (by simpa using l)] at e; cases e
  · rw [List.getElem?_set_ne q] at e ⊢
    exact h.2 j w' e
theorem RS.setN {H : Hp} {σ : St} {ρ : AS} (h : RS H σ ρ) (i : Nat) : RS H (σ.set i none) (ρ.set i none) := by
  refine ⟨by rw [List.length_set, List.length_set]; exact h.1, fun j w' e => ?_⟩
  by_cases q : i = j
  · subst q
    by_cases l : i < ρ.length
    · rw [List.getElem?_set_self l] at e; cases e
    · rw [List.getElem?_eq_none (by simpa using l)] at e; cases e
  · rw [List.getElem?_set_ne q] at e ⊢
    exact h.2 j w' e
def wipeW (ρ : AS) : List Nat → AS
  | [] => ρ
  | v :: vs => (wipeW ρ vs).set v none
theorem RS.wipe {H : Hp} {σ : St} {ρ : AS} (h : RS H σ ρ) : ∀ vs : List Nat, RS H (L2.wipe σ vs) (wipeW ρ vs)
  | [] => h
  | v :: vs => (RS.wipe h vs).setN v
theorem RS.len {H : Hp} {σ : St} {ρ : AS} (h : RS H σ ρ) : ρ.length = σ.length := h.1
def startW (N : List Str) (ws : List W) : AS := ws.map some ++ List.replicate (N.length - ws.length) none
theorem RS.start {H : Hp} {N : List Str} {ws : List W} {vs : List V} (r : RVs H ws vs) : RS H (L2.start N vs) (startW N ws) := by
  have hl := r.length
  refine ⟨by unfold L2.start startW; simp [hl], fun i w e => ?_⟩
  unfold startW at e
  unfold L2.start
  by_cases q : i < ws.length
  · rw [List.getElem?_append_left (by simpa using q), List.getElem?_map] at e
    cases z : ws[i]? with
    | none => rw [z] at e; cases e
    | some w' =>
      rw [z] at e
      simp at e
      subst e
      obtain ⟨v, h1, h2⟩ := r.get z
      refine ⟨v, ?_, h2⟩
      rw [List.getElem?_append_left (by simpa [← hl] using q), List.getElem?_map, h1]
      rfl
  · rw [List.getElem?_append_right (by simpa using q), List.getElem?_replicate] at e
    split at e <;> cases e

/-! ### the judgements -/
section
variable (X : Cx)
/-- what an expression's end asks -/
def CW (c : Ct) (H : Hp) (K : W → AH → Prop) : VK := fun v H' => ∃ w G', Keep H H' ∧ RV H' w v ∧ RG c H' G' ∧ K w G'
def CB (c : Ct) (H : Hp) (K : Bool → AH → Prop) : Bool → Hp → Prop := fun b H' => ∃ G', Keep H H' ∧ RG c H' G' ∧ K b G'
def CA (c : Ct) (H : Hp) (n : Nat) (K : List W → AH → Prop) : List V → Hp → Prop := fun vs H' => ∃ ws G', Keep H H' ∧ RVs H' ws vs ∧ RG c H' G' ∧ ws.length = n ∧ K ws G'
def CS (c : Ct) (H : Hp) (K : AS → AH → Prop) : St → Hp → Prop := fun σ' H' => ∃ ρ' G', Keep H H' ∧ RS H' σ' ρ' ∧ RG c H' G' ∧ K ρ' G'
structure AEnds where
  nx : AS → AH → Prop
  rt : W → AH → Prop
  bk : AS → AH → Prop := fun _ _ => False
  ct : AS → AH → Prop := fun _ _ => False
def CD (c : Ct) (H : Hp) (A : AEnds) : Ends := ⟨CS c H A.nx, CW c H A.rt, CS c H A.bk, CS c H A.ct⟩

structure EQ (e : Expr) (ρ : AS) (G : AH) (K : W → AH → Prop) : Prop where
  run : ∀ (pins : List (Addr × Obj)) (s : Shared) (σ : St) (H : Hp), Inv X pins σ H s → RS H σ ρ → RG (cc X) H G → wpAny (model X.prog X.w) X.A (eval e X.env) (EP X pins σ (CW (cc X) H K)) X.xe s
structure BQ (e : Expr) (ρ : AS) (G : AH) (K : Bool → AH → Prop) : Prop where
  run : ∀ (pins : List (Addr × Obj)) (s : Shared) (σ : St) (H : Hp), Inv X pins σ H s → RS H σ ρ → RG (cc X) H G → wpAny (model X.prog X.w) X.A (isTrue e X.env (eval e X.env)) (TP X pins σ (CB (cc X) H K)) X.xe s
/-- a test whatever its 'whole' is -/
structure WQ (e : Expr) (ρ : AS) (G : AH) (K : Bool → AH → Prop) : Prop where
  run : ∀ (whole : Sem Value) (pins : List (Addr × Obj)) (s : Shared) (σ : St) (H : Hp), Inv X pins σ H s → RS H σ ρ → RG (cc X) H G → wpAny (model X.prog X.w) X.A (isTrue e X.env whole) (TP X pins σ (CB (cc X) H K)) X.xe s
structure AQ (es : List Expr) (ρ : AS) (G : AH) (K : List W → AH → Prop) : Prop where
  run : ∀ (pos : Pos) (pins : List (Addr × Obj)) (s : Shared) (σ : St) (H : Hp), Inv X pins σ H s → RS H σ ρ → RG (cc X) H G → wpAny (model X.prog X.w) X.A (spliced (backTo pos (starEach es X.env))) (AP X pins σ (CA (cc X) H es.length K)) X.xe s
structure S1 (st : Stmt) (ρ : AS) (G : AH) (A : AEnds) : Prop where
  run : ∀ (pins : List (Addr × Obj)) (s : Shared) (σ : St) (H : Hp), Inv X pins σ H s → RS H σ ρ → RG (cc X) H G → wpAny (model X.prog X.w) X.A (exec st X.env) (SP X pins (CD (cc X) H A)) X.xe s
structure SQ (sts : List Stmt) (ρ : AS) (G : AH) (A : AEnds) : Prop where
  run : ∀ (pins : List (Addr × Obj)) (s : Shared) (σ : St) (H : Hp), Inv X pins σ H s → RS H σ ρ → RG (cc X) H G → wpAny (model X.prog X.w) X.A (execs sts X.env) (SP X pins (CD (cc X) H A)) X.xe s
structure GQ (tg : Expr) (w : W) (ρ : AS) (G : AH) (K : AS → AH → Prop) : Prop where
  run : ∀ (pins : List (Addr × Obj)) (s : Shared) (σ : St) (H : Hp) (v : V) (u : Value), Inv X pins σ H s → RS H σ ρ → RG (cc X) H G → RV H w v → RelV v u →
    wpAny (model X.prog X.w) X.A (assign tg X.env u) (fun _ s' => ∃ σ' H', Inv X pins σ' H' s' ∧ CS (cc X) H K σ' H') X.xe s
structure GsQ (ts : List Expr) (ws : List W) (ρ : AS) (G : AH) (K : AS → AH → Prop) : Prop where
  run : ∀ (pins : List (Addr × Obj)) (s : Shared) (σ : St) (H : Hp) (vs : List V) (us : List Value), Inv X pins σ H s → RS H σ ρ → RG (cc X) H G → RVs H ws vs → Vals vs us →
    wpAny (model X.prog X.w) X.A (assignInOrder ((assignEach ts X.env).map (·.2)) us) (fun _ s' => ∃ σ' H', Inv X pins σ' H' s' ∧ CS (cc X) H K σ' H') X.xe s

def tE (e : Expr) : TE := fun σ H Q => ∃ ρ G K, EQ X e ρ G K ∧ RS H σ ρ ∧ RG (cc X) H G ∧ ∀ v H', CW (cc X) H K v H' → Q v H'
def tT (e : Expr) : TT := fun σ H Q => ∃ ρ G K, BQ X e ρ G K ∧ RS H σ ρ ∧ RG (cc X) H G ∧ ∀ v H', CB (cc X) H K v H' → Q v H'
def tW (e : Expr) : TT := fun σ H Q => ∃ ρ G K, WQ X e ρ G K ∧ RS H σ ρ ∧ RG (cc X) H G ∧ ∀ v H', CB (cc X) H K v H' → Q v H'
def tA (es : List Expr) : TA := fun σ H Q => ∃ ρ G K, AQ X es ρ G K ∧ RS H σ ρ ∧ RG (cc X) H G ∧ ∀ v H', CA (cc X) H es.length K v H' → Q v H'
def DImp (D D' : Ends) : Prop := (∀ σ H, D.nx σ H → D'.nx σ H) ∧ (∀ v H, D.rt v H → D'.rt v H) ∧ (∀ σ H, D.bk σ H → D'.bk σ H) ∧ (∀ σ H, D.ct σ H → D'.ct σ H)
def tS (st : Stmt) : TS := fun D σ H => ∃ ρ G A, S1 X st ρ G A ∧ RS H σ ρ ∧ RG (cc X) H G ∧ DImp (CD (cc X) H A) D
def tSs (sts : List Stmt) : TS := fun D σ H => ∃ ρ G A, SQ X sts ρ G A ∧ RS H σ ρ ∧ RG (cc X) H G ∧ DImp (CD (cc X) H A) D
def tG (tg : Expr) : TG := fun v σ H Q => ∃ w ρ G K, GQ X tg w ρ G K ∧ RS H σ ρ ∧ RG (cc X) H G ∧ RV H w v ∧ ∀ σ' H', CS (cc X) H K σ' H' → Q σ' H'
def tGs (ts : List Expr) : TGs := fun vs σ H Q => ∃ ws ρ G K, GsQ X ts ws ρ G K ∧ RS H σ ρ ∧ RG (cc X) H G ∧ RVs H ws vs ∧ ∀ σ' H', CS (cc X) H K σ' H' → Q σ' H'
end
section
variable {X : Cx}
theorem SP.imp {X : Cx} {pins : List (Addr × Obj)} {D D' : Ends} {f : Flow} {s : Shared} (h : SP X pins D f s) (i : DImp D D') : SP X pins D' f s := by
  cases f with
  | next => obtain ⟨σ, H, I, q⟩ := h; exact ⟨σ, H, I, i.1 _ _ q⟩
  | brk => obtain ⟨σ, H, I, q⟩ := h; exact ⟨σ, H, I, i.2.2.1 _ _ q⟩
  | cont => obtain ⟨σ, H, I, q⟩ := h; exact ⟨σ, H, I, i.2.2.2 _ _ q⟩
  | ret u => obtain ⟨v, σ, H, I, r, q⟩ := h; exact ⟨v, σ, H, I, r, i.2.1 _ _ q⟩
theorem pe_E {e : Expr} : PE X e (tE X e) := ⟨fun pins s σ H Q I ⟨ρ, G, K, h, rs, rg, k⟩ => thn (h.run pins s σ H I rs rg) fun u s' ⟨v, H', I', r, q⟩ => ⟨v, H', I', r, k v H' q⟩⟩
theorem pt_T {e : Expr} : PT X e (tT X e) := ⟨fun pins s σ H Q I ⟨ρ, G, K, h, rs, rg, k⟩ => thn (h.run pins s σ H I rs rg) fun u s' ⟨H', I', q⟩ => ⟨H', I', k u H' q⟩⟩
theorem pw_W {e : Expr} : PW X e (tW X e) := ⟨fun wh pins s σ H Q I ⟨ρ, G, K, h, rs, rg, k⟩ => thn (h.run wh pins s σ H I rs rg) fun u s' ⟨H', I', q⟩ => ⟨H', I', k u H' q⟩⟩
theorem pa_A {e : List Expr} : PA X e (tA X e) := ⟨fun pos pins s σ H Q I ⟨ρ, G, K, h, rs, rg, k⟩ => thn (h.run pos pins s σ H I rs rg) fun u s' ⟨v, H', I', r, q⟩ => ⟨v, H', I', r, k v H' q⟩⟩
theorem ps_S {e : Stmt} : PS X e (tS X e) := ⟨fun pins s σ H D I ⟨ρ, G, A, h, rs, rg, k⟩ => thn (h.run pins s σ H I rs rg) fun u s' q => SP.imp (D := CD (cc X) H A) q k⟩
theorem pss_S {e : List Stmt} : PSs X e (tSs X e) := ⟨fun pins s σ H D I ⟨ρ, G, A, h, rs, rg, k⟩ => thn (h.run pins s σ H I rs rg) fun u s' q => SP.imp (D := CD (cc X) H A) q k⟩
theorem pg_G {e : Expr} : PG X e (tG X e) := ⟨fun pins s σ H v u Q I r ⟨w, ρ, G, K, h, rs, rg, rv, k⟩ => thn (h.run pins s σ H v u I rs rg rv r) fun u s' ⟨σ', H', I', q⟩ => ⟨σ', H', I', k σ' H' q⟩⟩
theorem pgs_G {e : List Expr} : PGs X e (tGs X e) := ⟨fun pins s σ H v u Q I r ⟨w, ρ, G, K, h, rs, rg, rv, k⟩ => thn (h.run pins s σ H v u I rs rg rv r) fun u s' ⟨σ', H', I', q⟩ => ⟨σ', H', I', k σ' H' q⟩⟩

theorem EQ.of {e : Expr} {t : TE} {ρ : AS} {G : AH} {K : W → AH → Prop} (h : PE X e t) (k : ∀ σ H, RS H σ ρ → RG (cc X) H G → t σ H (CW (cc X) H K)) : EQ X e ρ G K := ⟨fun pins s σ H I rs rg => h.run pins s σ H _ I (k σ H rs rg)⟩
theorem BQ.of {e : Expr} {t : TT} {ρ : AS} {G : AH} {K : Bool → AH → Prop} (h : PT X e t) (k : ∀ σ H, RS H σ ρ → RG (cc X) H G → t σ H (CB (cc X) H K)) : BQ X e ρ G K := ⟨fun pins s σ H I rs rg => h.run pins s σ H _ I (k σ H rs rg)⟩
theorem WQ.of {e : Expr} {t : TT} {ρ : AS} {G : AH} {K : Bool → AH → Prop} (h : PW X e t) (k : ∀ σ H, RS H σ ρ → RG (cc X) H G → t σ H (CB (cc X) H K)) : WQ X e ρ G K := ⟨fun wh pins s σ H I rs rg => h.run wh pins s σ H _ I (k σ H rs rg)⟩
theorem AQ.of {e : List Expr} {t : TA} {ρ : AS} {G : AH} {K : List W → AH → Prop} (h : PA X e t) (k : ∀ σ H, RS H σ ρ → RG (cc X) H G → t σ H (CA (cc X) H e.length K)) : AQ X e ρ G K := ⟨fun pos pins s σ H I rs rg => h.run pos pins s σ H _ I (k σ H rs rg)⟩
theorem S1.of {e : Stmt} {t : TS} {ρ : AS} {G : AH} {A : AEnds} (h : PS X e t) (k : ∀ σ H, RS H σ ρ → RG (cc X) H G → t (CD (cc X) H A) σ H) : S1 X e ρ G A := ⟨fun pins s σ H I rs rg => h.run pins s σ H _ I (k σ H rs rg)⟩
theorem SQ.of {e : List Stmt} {t : TS} {ρ : AS} {G : AH} {A : AEnds} (h : PSs X e t) (k : ∀ σ H, RS H σ ρ → RG (cc X) H G → t (CD (cc X) H A) σ H) : SQ X e ρ G A := ⟨fun pins s σ H I rs rg => h.run pins s σ H _ I (k σ H rs rg)⟩
theorem GQ.of {e : Expr} {t : TG} {w : W} {ρ : AS} {G : AH} {K : AS → AH → Prop} (h : PG X e t) (k : ∀ v σ H, RS H σ ρ → RG (cc X) H G → RV H w v → t v σ H (CS (cc X) H K)) : GQ X e w ρ G K := ⟨fun pins s σ H v u I rs rg rv r => h.run pins s σ H v u _ I r (k v σ H rs rg rv)⟩
theorem GsQ.of {e : List Expr} {t : TGs} {w : List W} {ρ : AS} {G : AH} {K : AS → AH → Prop} (h : PGs X e t) (k : ∀ v σ H, RS H σ ρ → RG (cc X) H G → RVs H w v → t v σ H (CS (cc X) H K)) : GsQ X e w ρ G K := ⟨fun pins s σ H v u I rs rg rv r => h.run pins s σ H v u _ I r (k v σ H rs rg rv)⟩
end
theorem CW.pre {c : Ct} {H H1 : Hp} {K : W → AH → Prop} (k : Keep H H1) {v : V} {H' : Hp} (h : CW c H1 K v H') : CW c H K v H' := let ⟨w, G', k', r, g, q⟩ := h; ⟨w, G', k.trans k', r, g, q⟩
theorem CB.pre {c : Ct} {H H1 : Hp} {K : Bool → AH → Prop} (k : Keep H H1) {v : Bool} {H' : Hp} (h : CB c H1 K v H') : CB c H K v H' := let ⟨G', k', g, q⟩ := h; ⟨G', k.trans k', g, q⟩
theorem CA.pre {c : Ct} {H H1 : Hp} {n : Nat} {K : List W → AH → Prop} (k : Keep H H1) {v : List V} {H' : Hp} (h : CA c H1 n K v H') : CA c H n K v H' := let ⟨w, G', k', r, g, q⟩ := h; ⟨w, G', k.trans k', r, g, q⟩
theorem CS.pre {c : Ct} {H H1 : Hp} {K : AS → AH → Prop} (k : Keep H H1) {v : St} {H' : Hp} (h : CS c H1 K v H') : CS c H K v H' := let ⟨w, G', k', r, g, q⟩ := h; ⟨w, G', k.trans k', r, g, q⟩
theorem CW.imp {c : Ct} {H : Hp} {K K' : W → AH → Prop} (i : ∀ w G, K w G → K' w G) {v : V} {H' : Hp} (h : CW c H K v H') : CW c H K' v H' := let ⟨w, G', k', r, g, q⟩ := h; ⟨w, G', k', r, g, i _ _ q⟩
theorem CB.imp {c : Ct} {H : Hp} {K K' : Bool → AH → Prop} (i : ∀ w G, K w G → K' w G) {v : Bool} {H' : Hp} (h : CB c H K v H') : CB c H K' v H' := let ⟨G', k', g, q⟩ := h; ⟨G', k', g, i _ _ q⟩
theorem CS.imp {c : Ct} {H : Hp} {K K' : AS → AH → Prop} (i : ∀ w G, K w G → K' w G) {v : St} {H' : Hp} (h : CS c H K v H') : CS c H K' v H' := let ⟨w, G', k', r, g, q⟩ := h; ⟨w, G', k', r, g, i _ _ q⟩
theorem CD.pre {c : Ct} {H H1 : Hp} {A : AEnds} (k : Keep H H1) : DImp (CD c H1 A) (CD c H A) := ⟨fun _ _ h => h.pre k, fun _ _ h => h.pre k, fun _ _ h => h.pre k, fun _ _ h => h.pre k⟩
theorem EQ.mono {X : Cx} {e : Expr} {ρ : AS} {G : AH} {K K' : W → AH → Prop} (h : EQ X e ρ G K) (i : ∀ w G, K w G → K' w G) : EQ X e ρ G K' :=
  ⟨fun pins s σ H I rs rg => thn (h.run pins s σ H I rs rg) fun u s' ⟨v, H', I', r, q⟩ => ⟨v, H', I', r, q.imp i⟩⟩
theorem BQ.mono {X : Cx} {e : Expr} {ρ : AS} {G : AH} {K K' : Bool → AH → Prop} (h : BQ X e ρ G K) (i : ∀ w G, K w G → K' w G) : BQ X e ρ G K' :=
  ⟨fun pins s σ H I rs rg => thn (h.run pins s σ H I rs rg) fun u s' ⟨H', I', q⟩ => ⟨H', I', q.imp i⟩⟩
theorem SQ.mono {X : Cx} {e : List Stmt} {ρ : AS} {G : AH} {A A' : AEnds} (h : SQ X e ρ G A) (i1 : ∀ w G, A.nx w G → A'.nx w G) (i2 : ∀ w G, A.rt w G → A'.rt w G) (i3 : ∀ w G, A.bk w G → A'.bk w G) (i4 : ∀ w G, A.ct w G → A'.ct w G) : SQ X e ρ G A' :=
  ⟨fun pins s σ H I rs rg => thn (h.run pins s σ H I rs rg) fun u s' q => SP.imp (D := CD (cc X) H A) q ⟨fun _ _ z => z.imp i1, fun _ _ z => z.imp i2, fun _ _ z => z.imp i3, fun _ _ z => z.imp i4⟩⟩
theorem S1.mono {X : Cx} {e : Stmt} {ρ : AS} {G : AH} {A A' : AEnds} (h : S1 X e ρ G A) (i1 : ∀ w G, A.nx w G → A'.nx w G) (i2 : ∀ w G, A.rt w G → A'.rt w G) (i3 : ∀ w G, A.bk w G → A'.bk w G) (i4 : ∀ w G, A.ct w G → A'.ct w G) : S1 X e ρ G A' :=
  ⟨fun pins s σ H I rs rg => thn (h.run pins s σ H I rs rg) fun u s' q => SP.imp (D := CD (cc X) H A) q ⟨fun _ _ z => z.imp i1, fun _ _ z => z.imp i2, fun _ _ z => z.imp i3, fun _ _ z => z.imp i4⟩⟩
/-! ### knowing less -/
def Sub (G G' : AH) : Prop := ∀ a o, G a = some o → G' a = some o
theorem Sub.refl {G : AH} : Sub G G := fun _ _ h => h
theorem Sub.trans {G G1 G2 : AH} (h : Sub G G1) (h' : Sub G1 G2) : Sub G G2 := fun a o e => h' a o (h a o e)
theorem Sub.new {G : AH} {p : Addr} {o : AO} (h : G p = none) : Sub G (aup G p o) := fun a u e => aup_new h e
theorem Sub.aup {G G' : AH} {p : Addr} {o : AO} (h : Sub G G') : Sub (aup G p o) (AL.aup G' p o) := fun a u e => by
  by_cases q : a = p
  · subst q; rw [aup_same] at e ⊢; exact e
  · rw [aup_ne q] at e ⊢; exact h a u e
theorem Sub.free {G G' : AH} {p : Addr} (h : Sub G G') (e : G' p = none) : G p = none := by
  cases q : G p with
  | none => rfl
  | some o => rw [h p o q] at e; cases e
theorem RG.sub {c : Ct} {H : Hp} {G G' : AH} (g : RG c H G') (s : Sub G G') : RG c H G := g.less s
theorem EQ.less {X : Cx} {e : Expr} {ρ : AS} {G G' : AH} {K : W → AH → Prop} (s : Sub G G') (h : EQ X e ρ G K) : EQ X e ρ G' K := ⟨fun pins s' σ H I rs rg => h.run pins s' σ H I rs (rg.sub s)⟩
theorem SQ.less {X : Cx} {e : List Stmt} {ρ : AS} {G G' : AH} {A : AEnds} (s : Sub G G') (h : SQ X e ρ G A) : SQ X e ρ G' A := ⟨fun pins s' σ H I rs rg => h.run pins s' σ H I rs (rg.sub s)⟩
/-- fewer slots -/
theorem SQ.slots {X : Cx} {e : List Stmt} {ρ ρ' : AS} {G : AH} {A : AEnds} (hl : ρ'.length = ρ.length) (s : ∀ (i : Nat) (w : W), ρ[i]? = some (some w) → ρ'[i]? = some (some w)) (h : SQ X e ρ G A) : SQ X e ρ' G A :=
  ⟨fun pins s' σ H I rs rg => h.run pins s' σ H I ⟨hl.symm.trans rs.1, fun i w e => rs.2 i w (s i w e)⟩ rg⟩
/-- the state told in other words -/
theorem SQ.st {X : Cx} {e : List Stmt} {ρ : AS} {G : AH} {A : AEnds} (ρ' : AS) (h : ρ = ρ') (k : SQ X e ρ' G A) : SQ X e ρ G A := h ▸ k
theorem SQ.hp {X : Cx} {e : List Stmt} {ρ : AS} {G : AH} {A : AEnds} (G' : AH) (h : G = G') (k : SQ X e ρ G' A) : SQ X e ρ G A := h ▸ k
/-- the same but at some places -/
def Offs (l : List Addr) (G G' : AH) : Prop := ∀ q, q ∉ l → G' q = G q
theorem Offs.refl {l : List Addr} {G : AH} : Offs l G G := fun _ _ => rfl
theorem Offs.trans {l : List Addr} {G G1 G2 : AH} (h : Offs l G G1) (h' : Offs l G1 G2) : Offs l G G2 := fun q hq => (h' q hq).trans (h q hq)
theorem Offs.put {l : List Addr} {G G' : AH} {a : Addr} {o : AO} (h : Offs l G G') (m : a ∈ l) : Offs l G (AL.aup G' a o) := fun q hq => by
  rw [aup_ne (fun e => hq (by rw [e]; exact m))]; exact h q hq
theorem Offs.new {l : List Addr} {G G' : AH} {p : Addr} {o : AO} (h : Offs l G G') : Offs (p :: l) G (AL.aup G' p o) := fun q hq => by
  rw [aup_ne (fun e => hq (by rw [e]; exact List.mem_cons_self))]; exact h q (fun m => hq (List.mem_cons_of_mem _ m))
theorem Offs.more {l l' : List Addr} {G G' : AH} (h : Offs l G G') (s : ∀ q, q ∈ l → q ∈ l') : Offs l' G G' := fun q hq => h q fun m => hq (s q m)
/-- where all places but a are new, G' knows what G knows with a's new object -/
theorem Offs.sub1 {l : List Addr} {G G' : AH} {a : Addr} {o : AO} (h : Offs l G G') (ha : G' a = some o) (n : ∀ q, q ∈ l → q ≠ a → G q = none) : Sub (AL.aup G a o) G' := fun q u e => by
  by_cases z : q = a
  · subst z; rw [aup_same] at e; cases e; exact ha
  · rw [aup_ne z] at e
    by_cases m : q ∈ l
    · rw [n q m z] at e; cases e
    · rw [h q m]; exact e
theorem Offs.sub {l : List Addr} {G G' : AH} (h : Offs l G G') (n : ∀ q, q ∈ l → G q = none) : Sub G G' := fun q u e => by
  by_cases m : q ∈ l
  · rw [n q m] at e; cases e
  · rw [h q m]; exact e
end AL
namespace AL
open PySem PySem.Spec L2
open PyProof.Rows hiding St

/-! ### answers of tests -/
structure ifB (b : Bool) (P Q : Prop) : Prop where
  h : match b with
  | true => P
  | false => Q
theorem ifB_of {b : Bool} {P Q : Prop} (h1 : b = true → P) (h2 : b = false → Q) : ifB b P Q := by
  cases b with
  | true => exact ⟨h1 rfl⟩
  | false => exact ⟨h2 rfl⟩
theorem ifB_dec {p P Q : Prop} [Decidable p] (h1 : p → P) (h2 : ¬ p → Q) : ifB (decide p) P Q := ifB_of (fun e => h1 (of_decide_eq_true e)) fun e => h2 (of_decide_eq_false e)
theorem ifB_ndec {p P Q : Prop} [Decidable p] (h1 : ¬ p → P) (h2 : p → Q) : ifB (!decide p) P Q := ifB_of (fun e => h1 (by simpa using e)) fun e => h2 (by simpa using e)
theorem ifB_T {b : Bool} {P Q : Prop} (e : b = true) (h : P) : ifB b P Q := by subst e; exact ⟨h⟩
theorem ifB_F {b : Bool} {P Q : Prop} (e : b = false) (h : Q) : ifB b P Q := by subst e; exact ⟨h⟩
theorem ifT {P Q : Prop} (h : P) : ifB true P Q := ⟨h⟩
theorem ifF {P Q : Prop} (h : Q) : ifB false P Q := ⟨h⟩
def tst (K : Bool → AH → Prop) : W → AH → Prop := fun z G => match z with
  | .bl b => K b G
  | _ => False
def onI (z : W) (k : Int → Prop) : Prop := match z with
  | .int i => k i
  | _ => False

abbrev WR := W → W → AH → (W → AH → Prop) → Prop
def RR (c : Ct) (r : R2) (R : WR) : Prop := ∀ x y u v H G K (Q : VK), RV H x u → RV H y v → RG c H G → R x y G K → (∀ z H', CW c H K z H' → Q z H') → r u v H Q
theorem RG.newL {c : Ct} {H : Hp} {G : AH} {p : Addr} {ws : List W} {vs : List V} (g : RG c H G) (hp : H p = none) (r : RVs H ws vs) : RG c (upd H p (.lst vs)) (aup G p (.lst ws)) :=
  g.new hp (show RO c (upd H p (.lst vs)) p (.lst ws) from ⟨vs, upd_same, r.mono (Keep.new hp)⟩)
theorem RG.lst {c : Ct} {H : Hp} {G : AH} {a : Addr} {ws : List W} (g : RG c H G) (h : G a = some (.lst ws)) : ∃ vs, H a = some (.lst vs) ∧ RVs H ws vs := g a _ h
theorem RG.mutL {c : Ct} {H : Hp} {G : AH} {a : Addr} {vs vs' : List V} {ws' : List W} (g : RG c H G) (h : H a = some (.lst vs)) (r : RVs H ws' vs') : Keep H (upd H a (.lst vs')) ∧ RG c (upd H a (.lst vs')) (aup G a (.lst ws')) := by
  have k : Keep H (upd H a (.lst vs')) := Keep.mut h (fun _ q => nomatch q)
  exact ⟨k, g.put k (show RO c (upd H a (.lst vs')) a (.lst ws') from ⟨vs', upd_same, r.mono k⟩)⟩
/-- nothing changes -/
theorem CW.stay {c : Ct} {H : Hp} {G : AH} {K : W → AH → Prop} {w : W} {v : V} (r : RV H w v) (g : RG c H G) (k : K w G) : CW c H K v H := ⟨w, G, Keep.refl, r, g, k⟩

section
variable {X : Cx} {a b e : Expr} {pos : Pos} {ρ : AS} {G : AH} {K : W → AH → Prop}
theorem q_var {x : Str} {i : Nat} {w : W} (hρ : ρ[i]? = some (some w)) (k : K w G) (hN : X.N[i]? = some x := by rfl) (hv : Vis X.env.scope x := by first | exact Or.inl rfl | exact Or.inr (Or.inl rfl) | exact Or.inr (Or.inr rfl))
    (hd : (x == ("__debug__" : Str)) = false := by decide) (hcd : (x == ("__classdict__" : Str)) = false := by decide) : EQ X (.Name x pos) ρ G K :=
  EQ.of (pe_var hN hv hd hcd) fun σ H rs rg => let ⟨v, h1, h2⟩ := rs.2 i w hρ; ⟨v, h1, .stay h2 rg k⟩
theorem q_int {i : Int} {j : Nat} (k : K (.int i) G) : EQ X (.Constant (.int i) j pos) ρ G K := EQ.of pe_int fun σ H rs rg => CW.stay (w := .int i) rfl rg k
theorem q_bl {i : Bool} {j : Nat} (k : K (.bl i) G) : EQ X (.Constant (.bool i) j pos) ρ G K := EQ.of pe_bl fun σ H rs rg => CW.stay (w := .bl i) rfl rg k
theorem q_non {j : Nat} (k : K .non G) : EQ X (.Constant .none j pos) ρ G K := EQ.of pe_non fun σ H rs rg => CW.stay (w := .non) rfl rg k
theorem q_str {i : Str} {j : Nat} (k : K (.str i) G) : EQ X (.Constant (.str i) j pos) ρ G K := EQ.of pe_str fun σ H rs rg => CW.stay (w := .str i) rfl rg k
theorem q_op {op : Operator} {r : R2} {R : WR} (ho : OpR X (binaryOp op) r) (rr : RR (cc X) r R) (h : EQ X a ρ G fun x G1 => EQ X b ρ G1 fun y G2 => R x y G2 K) : EQ X (.BinOp a op b pos) ρ G K :=
  EQ.of (pe_op ho pe_E pe_E) fun σ H rs rg => ⟨ρ, G, _, h, rs, rg, fun u H1 ⟨x, G1, k1, rx, rg1, hb⟩ => ⟨ρ, G1, _, hb, rs.mono k1, rg1, fun v H2 ⟨y, G2, k2, ry, rg2, hr⟩ =>
    rr x y u v H2 G2 K _ (rx.mono k2) ry rg2 hr fun z H' q => q.pre (k1.trans k2)⟩⟩
theorem q_cmp {op : CmpOp} {r : R2} {R : WR} (ho : OpR X (compareOp op) r) (rr : RR (cc X) r R) (hm : behindInMarks op b = false) (h : EQ X a ρ G fun x G1 => EQ X b ρ G1 fun y G2 => R x y G2 K) : EQ X (.Compare a [op] [b] pos) ρ G K :=
  EQ.of (pe_cmpR ho pe_E pe_E hm) fun σ H rs rg => ⟨ρ, G, _, h, rs, rg, fun u H1 ⟨x, G1, k1, rx, rg1, hb⟩ => ⟨ρ, G1, _, hb, rs.mono k1, rg1, fun v H2 ⟨y, G2, k2, ry, rg2, hr⟩ =>
    rr x y u v H2 G2 K _ (rx.mono k2) ry rg2 hr fun z H' q => q.pre (k1.trans k2)⟩⟩
theorem tst_of {c : Ct} {H H' : Hp} {K : Bool → AH → Prop} {z : V} (h : CW c H (tst K) z H') : ∃ k, z = .bl k ∧ CB c H K k H' := by
  obtain ⟨w, G', k, r, g, q⟩ := h
  cases w with
  | bl b => exact ⟨b, r, G', k, g, q⟩
  | _ => exact q.elim
theorem b_cmp {op : CmpOp} {r : R2} {R : WR} {K : Bool → AH → Prop} (ho : OpR X (compareOp op) r) (rr : RR (cc X) r R) (hm : behindInMarks op b = false) (h : EQ X a ρ G fun x G1 => EQ X b ρ G1 fun y G2 => R x y G2 (tst K)) : BQ X (.Compare a [op] [b] pos) ρ G K :=
  BQ.of (pt_cmpR ho pe_E pe_E hm) fun σ H rs rg => ⟨ρ, G, _, h, rs, rg, fun u H1 ⟨x, G1, k1, rx, rg1, hb⟩ => ⟨ρ, G1, _, hb, rs.mono k1, rg1, fun v H2 ⟨y, G2, k2, ry, rg2, hr⟩ =>
    rr x y u v H2 G2 (tst K) _ (rx.mono k2) ry rg2 hr fun z H' q => tst_of (q.pre (k1.trans k2))⟩⟩
/-- a test that is an expression with a truth value -/
theorem b_val {K : Bool → AH → Prop} (h : EQ X e ρ G (tst K)) (he : ∀ whole, isTrue e X.env whole = (do let v ← whole; standAt e.pos; holding [v] (truthy v)) := by intro _; rfl) : BQ X e ρ G K :=
  BQ.of (pt_val pe_E he) fun σ H rs rg => ⟨ρ, G, _, h, rs, rg, fun u H1 q => tst_of q⟩
theorem b_not {K : Bool → AH → Prop} (h : BQ X a ρ G fun c G1 => K (!c) G1) : BQ X (.UnaryOp .Not a pos) ρ G K :=
  BQ.of (pt_not pt_T) fun σ H rs rg => ⟨ρ, G, _, h, rs, rg, fun c H' ⟨G', k, g, q⟩ => ⟨G', k, g, q⟩⟩
theorem WQ.test {K : Bool → AH → Prop} (h : WQ X e ρ G K) : BQ X e ρ G K := ⟨fun pins s σ H I rs rg => h.run _ pins s σ H I rs rg⟩
theorem w_and1 {K : Bool → AH → Prop} (h : BQ X a ρ G K) : WQ X (.BoolOp .And [a] pos) ρ G K :=
  WQ.of (pw_and1 pt_T) fun σ H rs rg => ⟨ρ, G, _, h, rs, rg, fun c H' q => q⟩
theorem w_or1 {K : Bool → AH → Prop} (h : BQ X a ρ G K) : WQ X (.BoolOp .Or [a] pos) ρ G K :=
  WQ.of (pw_or1 pt_T) fun σ H rs rg => ⟨ρ, G, _, h, rs, rg, fun c H' q => q⟩
theorem w_and {K : Bool → AH → Prop} {rest : List Expr} (h : BQ X a ρ G fun c G1 => ifB c (WQ X (.BoolOp .And (b :: rest) pos) ρ G1 K) (K false G1)) : WQ X (.BoolOp .And (a :: b :: rest) pos) ρ G K :=
  WQ.of (pw_and pt_T pw_W) fun σ H rs rg => ⟨ρ, G, _, h, rs, rg, fun c H' ⟨G', k, g, q⟩ => by
    cases c with
    | true => exact ⟨ρ, G', _, q.h, rs.mono k, g, fun d H2 z => z.pre k⟩
    | false => exact ⟨G', k, g, q.h⟩⟩
theorem w_or {K : Bool → AH → Prop} {rest : List Expr} (h : BQ X a ρ G fun c G1 => ifB c (K true G1) (WQ X (.BoolOp .Or (b :: rest) pos) ρ G1 K)) : WQ X (.BoolOp .Or (a :: b :: rest) pos) ρ G K :=
  WQ.of (pw_or pt_T pw_W) fun σ H rs rg => ⟨ρ, G, _, h, rs, rg, fun c H' ⟨G', k, g, q⟩ => by
    cases c with
    | false => exact ⟨ρ, G', _, q.h, rs.mono k, g, fun d H2 z => z.pre k⟩
    | true => exact ⟨G', k, g, q.h⟩⟩
theorem q_one {op : BoolOp} (h : EQ X a ρ G K) : EQ X (.BoolOp op [a] pos) ρ G K := EQ.of (pe_one pe_E) fun σ H rs rg => ⟨ρ, G, _, h, rs, rg, fun c H' q => q⟩
theorem q_and {rest : List Expr} (h : EQ X a ρ G (tst fun c G1 => ifB c (EQ X (.BoolOp .And (b :: rest) pos) ρ G1 K) (K (.bl false) G1))) : EQ X (.BoolOp .And (a :: b :: rest) pos) ρ G K :=
  EQ.of (pe_and pe_E pe_E) fun σ H rs rg => ⟨ρ, G, _, h, rs, rg, fun u H' q => by
    obtain ⟨c, e, G', k, g, q⟩ := tst_of q
    refine ⟨c, e, ?_⟩
    cases c with
    | true => exact ⟨ρ, G', _, q.h, rs.mono k, g, fun d H2 z => z.pre k⟩
    | false => exact ⟨.bl false, G', k, rfl, g, q.h⟩⟩
theorem q_or {rest : List Expr} (h : EQ X a ρ G (tst fun c G1 => ifB c (K (.bl true) G1) (EQ X (.BoolOp .Or (b :: rest) pos) ρ G1 K))) : EQ X (.BoolOp .Or (a :: b :: rest) pos) ρ G K :=
  EQ.of (pe_or pe_E pe_E) fun σ H rs rg => ⟨ρ, G, _, h, rs, rg, fun u H' q => by
    obtain ⟨c, e, G', k, g, q⟩ := tst_of q
    refine ⟨c, e, ?_⟩
    cases c with
    | false => exact ⟨ρ, G', _, q.h, rs.mono k, g, fun d H2 z => z.pre k⟩
    | true => exact ⟨.bl true, G', k, rfl, g, q.h⟩⟩
theorem q_not (h : EQ X a ρ G (tst fun c G1 => K (.bl (!c)) G1)) : EQ X (.UnaryOp .Not a pos) ρ G K :=
  EQ.of (pe_not pe_E) fun σ H rs rg => ⟨ρ, G, _, h, rs, rg, fun u H' q => by
    obtain ⟨c, e, G', k, g, q⟩ := tst_of q
    exact ⟨c, e, .bl (!c), G', k, rfl, g, q⟩⟩
theorem q_if {c : Expr} (h : BQ X c ρ G fun d G1 => ifB d (EQ X a ρ G1 K) (EQ X b ρ G1 K)) : EQ X (.IfExp c a b pos) ρ G K :=
  EQ.of (pe_ifExp pt_T pe_E pe_E) fun σ H rs rg => ⟨ρ, G, _, h, rs, rg, fun c H' ⟨G', k, g, q⟩ => by
    cases c with
    | true => exact ⟨ρ, G', _, q.h, rs.mono k, g, fun d H2 z => z.pre k⟩
    | false => exact ⟨ρ, G', _, q.h, rs.mono k, g, fun d H2 z => z.pre k⟩⟩

/-! ### arguments, displays -/
theorem a_nil {K : List W → AH → Prop} (k : K [] G) : AQ X [] ρ G K := AQ.of pa_nil fun σ H rs rg => ⟨[], G, Keep.refl, RVs.nil, rg, rfl, k⟩
theorem a_cons {K : List W → AH → Prop} {es : List Expr} (h : EQ X e ρ G fun w G1 => AQ X es ρ G1 fun ws G2 => K (w :: ws) G2) (hs : starEach (e :: es) X.env = (false, eval e X.env) :: starEach es X.env := by rfl) : AQ X (e :: es) ρ G K :=
  AQ.of (pa_cons pe_E pa_A hs) fun σ H rs rg => ⟨ρ, G, _, h, rs, rg, fun u H1 ⟨x, G1, k1, rx, rg1, hb⟩ => ⟨ρ, G1, _, hb, rs.mono k1, rg1, fun v H2 ⟨ws, G2, k2, ry, rg2, hl, q⟩ =>
    ⟨x :: ws, G2, k1.trans k2, .cons (rx.mono k2) ry, rg2, by rw [List.length_cons, hl, List.length_cons], q⟩⟩⟩
theorem small_ok {n m : Nat} (e : n = m) (h : Nat.ble m 100000 = true) : n ≤ sizeLine := by
  subst e
  exact Nat.le_trans (Nat.le_of_ble_eq_true h) (by decide)
theorem q_tup {es : List Expr} {x1 : Nat} (h : AQ X es ρ G fun ws G1 => K (.tup ws) G1) (hn : Nat.ble es.length 100000 = true := by rfl) : EQ X (.Tuple es x1 pos) ρ G K :=
  EQ.of (pe_tup pa_A) fun σ H rs rg => ⟨ρ, G, _, h, rs, rg, fun vs H1 ⟨ws, G1, k1, rx, rg1, hl, q⟩ =>
    ⟨small_ok (rx.length.symm.trans hl) hn, fun p hp => ⟨.tup ws, G1, k1.trans (Keep.new hp), ⟨p, vs, rfl, upd_same, rx.mono (Keep.new hp)⟩, rg1.tup hp, q⟩⟩⟩
theorem q_lst {es : List Expr} (h : AQ X es ρ G fun ws G1 => ∀ p, G1 p = none → K (.ref p) (aup G1 p (.lst ws))) (hn : Nat.ble es.length 100000 = true := by rfl) : EQ X (.List es pos) ρ G K :=
  EQ.of (pe_lst pa_A) fun σ H rs rg => ⟨ρ, G, _, h, rs, rg, fun vs H1 ⟨ws, G1, k1, rx, rg1, hl, q⟩ =>
    ⟨small_ok (rx.length.symm.trans hl) hn, fun p hp => ⟨.ref p, _, k1.trans (Keep.new hp), rfl, rg1.newL hp rx, q p (rg1.free hp)⟩⟩⟩
end

/-! ### + -/
def fAdd : WR := fun x y G K => match x, y with
  | .int i, .int j => K (.int (i + j)) G
  | .str i, .str j => i.length + j.length ≤ sizeLine ∧ K (.str (i ++ j)) G
  | .tup xs, .tup ys => xs.length + ys.length ≤ sizeLine ∧ K (.tup (xs ++ ys)) G
  | .ref a, .ref b => ∃ xs ys, G a = some (.lst xs) ∧ G b = some (.lst ys) ∧ xs.length + ys.length ≤ sizeLine ∧ ∀ p, G p = none → K (.ref p) (aup G p (.lst (xs ++ ys)))
  | _, _ => False
def rAddU (K : PySem.W.Frag) : R2 := fun x y H Q => rI0 (fun i j => .int (i + j)) x y H Q ∨ (∃ i j, x = .str i ∧ y = .str j ∧ i.length + j.length ≤ sizeLine ∧ Q (.str (i ++ j)) H) ∨ rCatA K x y H Q ∨ rCat x y H Q
theorem op_addU {X : Cx} : OpR X (binaryOp .Add) (rAddU X.K) := op_add.or (op_add_str.or (op_catA.or op_cat))
theorem rr_add {c : Ct} : RR c (rAddU c.K) fAdd := by
  intro x y u v H G K Q rx ry g h q
  cases x with
  | int i => cases y with
    | int j =>
      have e1 : u = .int i := rx
      have e2 : v = .int j := ry
      subst e1 e2
      exact .inl ⟨i, j, rfl, rfl, q _ _ (.stay (w := .int (i + j)) rfl g h)⟩
    | _ => exact h.elim
  | str i => cases y with
    | str j =>
      have e1 : u = .str i := rx
      have e2 : v = .str j := ry
      subst e1 e2
      exact .inr (.inl ⟨i, j, rfl, rfl, h.1, q _ _ (.stay (w := .str (i ++ j)) rfl g h.2)⟩)
    | _ => exact h.elim
  | tup xs => cases y with
    | tup ys =>
      obtain ⟨a, vs, rfl, ha, r1⟩ := rx
      obtain ⟨b, us, rfl, hb, r2⟩ := ry
      refine .inr (.inr (.inl ⟨a, b, vs, us, rfl, rfl, SqT.of ha, SqT.of hb, by rw [← r1.length, ← r2.length]; exact h.1, fun e => ?_, fun _ e => ?_, fun _ _ p hp => ?_⟩))
      · subst e
        have e : xs = [] := List.length_eq_zero_iff.mp r1.length
        subst e
        exact q _ _ (.stay (w := .tup ys) ⟨b, us, rfl, hb, r2⟩ g h.2)
      · subst e
        have e : ys = [] := List.length_eq_zero_iff.mp r2.length
        subst e
        refine q _ _ (.stay (w := .tup xs) ⟨a, vs, rfl, ha, r1⟩ g ?_)
        have := h.2
        rw [List.append_nil] at this
        exact this
      · exact q _ _ ⟨.tup (xs ++ ys), G, Keep.new hp, ⟨p, _, rfl, upd_same, (r1.append r2).mono (Keep.new hp)⟩, g.tup hp, h.2⟩
    | _ => exact h.elim
  | ref a => cases y with
    | ref b =>
      have e1 : u = .ref a := rx
      have e2 : v = .ref b := ry
      subst e1 e2
      obtain ⟨xs, ys, ha, hb, hl, k⟩ := h
      obtain ⟨vs, h1, r1⟩ := g.lst ha
      obtain ⟨us, h2, r2⟩ := g.lst hb
      exact .inr (.inr (.inr ⟨a, b, vs, us, rfl, rfl, h1, h2, by rw [← r1.length, ← r2.length]; exact hl, fun p hp => q _ _ ⟨.ref p, _, Keep.new hp, rfl, g.newL hp (r1.append r2), k p (g.free hp)⟩⟩))
    | _ => exact h.elim
  | _ => exact h.elim
/-! ### whole numbers -/
def fI (C : Int → Int → Prop) (f : Int → Int → Int) : WR := fun x y G K => match x, y with
  | .int i, .int j => C i j ∧ K (.int (f i j)) G
  | _, _ => False
def fI0 (f : Int → Int → Int) : WR := fun x y G K => match x, y with
  | .int i, .int j => K (.int (f i j)) G
  | _, _ => False
def fIB (f : Int → Int → Bool) : WR := fun x y G K => match x, y with
  | .int i, .int j => K (.bl (f i j)) G
  | _, _ => False
theorem rr_I {c : Ct} {C : Int → Int → Prop} {f : Int → Int → Int} : RR c (rI C fun i j => .int (f i j)) (fI C f) := by
  intro x y u v H G K Q rx ry g h q
  cases x with
  | int i => cases y with
    | int j =>
      have e1 : u = .int i := rx
      have e2 : v = .int j := ry
      subst e1 e2
      exact ⟨i, j, rfl, rfl, h.1, q _ _ (.stay (w := .int (f i j)) rfl g h.2)⟩
    | _ => exact h.elim
  | _ => exact h.elim
theorem rr_I0 {c : Ct} {f : Int → Int → Int} : RR c (rI0 fun i j => .int (f i j)) (fI0 f) := by
  intro x y u v H G K Q rx ry g h q
  cases x with
  | int i => cases y with
    | int j =>
      have e1 : u = .int i := rx
      have e2 : v = .int j := ry
      subst e1 e2
      exact ⟨i, j, rfl, rfl, q _ _ (.stay (w := .int (f i j)) rfl g h)⟩
    | _ => exact h.elim
  | _ => exact h.elim
theorem rr_IB {c : Ct} {f : Int → Int → Bool} : RR c (rI0 fun i j => .bl (f i j)) (fIB f) := by
  intro x y u v H G K Q rx ry g h q
  cases x with
  | int i => cases y with
    | int j =>
      have e1 : u = .int i := rx
      have e2 : v = .int j := ry
      subst e1 e2
      exact ⟨i, j, rfl, rfl, q _ _ (.stay (w := .bl (f i j)) rfl g h)⟩
    | _ => exact h.elim
  | _ => exact h.elim
/-- * of numbers, list * number -/
def fMul : WR := fun x y G K => match x, y with
  | .int i, .int j => IntMulOk i j ∧ K (.int (i * j)) G
  | .ref a, .int k => ∃ xs, G a = some (.lst xs) ∧ k < 2 ^ 31 ∧ -(2 ^ 31) < k ∧ xs.length * k.toNat ≤ sizeLine ∧ ∀ p, G p = none → K (.ref p) (aup G p (.lst (List.replicate k.toNat xs).flatten))
  | _, _ => False
theorem RVs.rep {H : Hp} {ws : List W} {vs : List V} (h : RVs H ws vs) : ∀ k : Nat, RVs H (List.replicate k ws).flatten (List.replicate k vs).flatten
  | 0 => RVs.nil
  | k + 1 => by
    rw [List.replicate_succ, List.replicate_succ, List.flatten_cons, List.flatten_cons]
    exact h.append (RVs.rep h k)
theorem op_mulI {X : Cx} : OpR X (binaryOp .Mult) (rI IntMulOk fun i j => .int (i * j)) := opI fun _ _ _ _ _ _ _ hc q => mul_int q hc
theorem rr_mul {c : Ct} : RR c (fun x y H Q => rI IntMulOk (fun i j => .int (i * j)) x y H Q ∨ rRep x y H Q) fMul := by
  intro x y u v H G K Q rx ry g h q
  cases x with
  | int i => cases y with
    | int j =>
      have e1 : u = .int i := rx
      have e2 : v = .int j := ry
      subst e1 e2
      exact .inl ⟨i, j, rfl, rfl, h.1, q _ _ (.stay (w := .int (i * j)) rfl g h.2)⟩
    | _ => exact h.elim
  | ref a => cases y with
    | int k =>
      have e1 : u = .ref a := rx
      have e2 : v = .int k := ry
      subst e1 e2
      obtain ⟨xs, ha, h1, h2, hl, kk⟩ := h
      obtain ⟨vs, hv, r⟩ := g.lst ha
      exact .inr ⟨a, k, vs, rfl, rfl, hv, by omega, by omega, by rw [← r.length]; exact hl, fun p hp => q _ _ ⟨.ref p, _, Keep.new hp, rfl, g.newL hp (r.rep _), kk p (g.free hp)⟩⟩
    | _ => exact h.elim
  | _ => exact h.elim
section
variable {X : Cx} {a b e : Expr} {pos : Pos} {ρ : AS} {G : AH} {K : W → AH → Prop} {KB : Bool → AH → Prop}
theorem q_add (h : EQ X a ρ G fun x G1 => EQ X b ρ G1 fun y G2 => fAdd x y G2 K) : EQ X (.BinOp a .Add b pos) ρ G K := q_op op_addU rr_add h
theorem q_sub (h : EQ X a ρ G fun x G1 => EQ X b ρ G1 fun y G2 => fI0 (fun i j => i - j) x y G2 K) : EQ X (.BinOp a .Sub b pos) ρ G K := q_op op_sub rr_I0 h
theorem q_mul (h : EQ X a ρ G fun x G1 => EQ X b ρ G1 fun y G2 => fMul x y G2 K) : EQ X (.BinOp a .Mult b pos) ρ G K := q_op (op_mulI.or op_rep) rr_mul h
theorem q_fdiv (h : EQ X a ρ G fun x G1 => EQ X b ρ G1 fun y G2 => fI CDivW (fun i j => i / j) x y G2 K) : EQ X (.BinOp a .FloorDiv b pos) ρ G K := q_op op_fdivW rr_I h
theorem q_mod (h : EQ X a ρ G fun x G1 => EQ X b ρ G1 fun y G2 => fI (fun _ j => 0 < j) (fun i j => i % j) x y G2 K) : EQ X (.BinOp a .Mod b pos) ρ G K := q_op op_mod rr_I h
theorem q_pow (h : EQ X a ρ G fun x G1 => EQ X b ρ G1 fun y G2 => fI CPow (fun i j => i ^ j.toNat) x y G2 K) : EQ X (.BinOp a .Pow b pos) ρ G K := q_op op_pow rr_I h
theorem q_neg (h : EQ X a ρ G fun x G1 => onI x fun i => K (.int (-i)) G1) : EQ X (.UnaryOp .USub a pos) ρ G K :=
  EQ.of (pe_un un_neg pe_E) fun σ H rs rg => ⟨ρ, G, _, h, rs, rg, fun u H1 ⟨x, G1, k1, rx, rg1, q⟩ => by
    cases x with
    | int i => exact ⟨i, rx, .int (-i), G1, k1, rfl, rg1, q⟩
    | _ => exact q.elim⟩
def fLt : WR := fIB fun i j => decide (i < j)
def fLe : WR := fIB fun i j => decide (i ≤ j)
def fGt : WR := fIB fun i j => decide (j < i)
def fGe : WR := fIB fun i j => decide (j ≤ i)
theorem q_lt (h : EQ X a ρ G fun x G1 => EQ X b ρ G1 fun y G2 => fLt x y G2 K) : EQ X (.Compare a [.Lt] [b] pos) ρ G K := q_cmp op_lt rr_IB (nomark _) h
theorem q_le (h : EQ X a ρ G fun x G1 => EQ X b ρ G1 fun y G2 => fLe x y G2 K) : EQ X (.Compare a [.LtE] [b] pos) ρ G K := q_cmp op_le rr_IB (nomark _) h
theorem q_gt (h : EQ X a ρ G fun x G1 => EQ X b ρ G1 fun y G2 => fGt x y G2 K) : EQ X (.Compare a [.Gt] [b] pos) ρ G K := q_cmp op_gt rr_IB (nomark _) h
theorem q_ge (h : EQ X a ρ G fun x G1 => EQ X b ρ G1 fun y G2 => fGe x y G2 K) : EQ X (.Compare a [.GtE] [b] pos) ρ G K := q_cmp op_ge rr_IB (nomark _) h
theorem b_lt (h : EQ X a ρ G fun x G1 => EQ X b ρ G1 fun y G2 => fLt x y G2 (tst KB)) : BQ X (.Compare a [.Lt] [b] pos) ρ G KB := b_cmp op_lt rr_IB (nomark _) h
theorem b_le (h : EQ X a ρ G fun x G1 => EQ X b ρ G1 fun y G2 => fLe x y G2 (tst KB)) : BQ X (.Compare a [.LtE] [b] pos) ρ G KB := b_cmp op_le rr_IB (nomark _) h
theorem b_gt (h : EQ X a ρ G fun x G1 => EQ X b ρ G1 fun y G2 => fGt x y G2 (tst KB)) : BQ X (.Compare a [.Gt] [b] pos) ρ G KB := b_cmp op_gt rr_IB (nomark _) h
theorem b_ge (h : EQ X a ρ G fun x G1 => EQ X b ρ G1 fun y G2 => fGe x y G2 (tst KB)) : BQ X (.Compare a [.GtE] [b] pos) ρ G KB := b_cmp op_ge rr_IB (nomark _) h
end
end AL
namespace AL
open PySem PySem.Spec L2
open PyProof.Rows hiding St

/-! ### statements -/
section
variable {X : Cx} {a b e : Expr} {pos : Pos} {ρ : AS} {G : AH} {K : W → AH → Prop} {A : AEnds} {st : Stmt} {rest : List Stmt}
theorem DImp.refl {D : Ends} : DImp D D := ⟨fun _ _ h => h, fun _ _ h => h, fun _ _ h => h, fun _ _ h => h⟩
theorem s_nil (k : A.nx ρ G) : SQ X [] ρ G A := SQ.of pss_nil fun σ H rs rg => ⟨ρ, G, Keep.refl, rs, rg, k⟩
theorem s_cons (h : S1 X st ρ G { A with nx := fun ρ' G' => SQ X rest ρ' G' A }) : SQ X (st :: rest) ρ G A :=
  SQ.of (pss_cons ps_S pss_S) fun σ H rs rg => ⟨ρ, G, _, h, rs, rg, fun σ' H' ⟨ρ', G', k, rs', rg', q⟩ => ⟨ρ', G', A, q, rs', rg', CD.pre k⟩, fun _ _ z => z, fun _ _ z => z, fun _ _ z => z⟩
theorem s_pass (k : A.nx ρ G) : S1 X (.Pass pos) ρ G A := S1.of ps_pass fun σ H rs rg => ⟨ρ, G, Keep.refl, rs, rg, k⟩
theorem s_break (k : A.bk ρ G) : S1 X (.Break pos) ρ G A := S1.of ps_break fun σ H rs rg => ⟨ρ, G, Keep.refl, rs, rg, k⟩
theorem s_cont (k : A.ct ρ G) : S1 X (.Continue pos) ρ G A := S1.of ps_continue fun σ H rs rg => ⟨ρ, G, Keep.refl, rs, rg, k⟩
theorem s_expr (h : EQ X e ρ G fun _ G1 => A.nx ρ G1) (hs : swapsWith e none pos.line X.env = pure false := by rfl) : S1 X (.Expr e pos) ρ G A :=
  S1.of (ps_expr pe_E hs) fun σ H rs rg => ⟨ρ, G, _, h, rs, rg, fun u H1 ⟨x, G1, k1, rx, rg1, q⟩ => ⟨ρ, G1, k1, rs.mono k1, rg1, q⟩⟩
theorem s_ret (h : EQ X e ρ G A.rt) : S1 X (.Return (some e) pos) ρ G A := S1.of (ps_ret pe_E) fun σ H rs rg => ⟨ρ, G, _, h, rs, rg, fun u H1 q => q⟩
theorem s_retN (h : A.rt .non G) : S1 X (.Return none pos) ρ G A := S1.of ps_retN fun σ H rs rg => CW.stay (w := .non) rfl rg h
theorem s_if {c : Expr} {t u : List Stmt} (h : BQ X c ρ G fun d G1 => ifB d (SQ X t ρ G1 A) (SQ X u ρ G1 A)) : S1 X (.If c t u pos) ρ G A :=
  S1.of (ps_if pt_T pss_S pss_S) fun σ H rs rg => ⟨ρ, G, _, h, rs, rg, fun d H1 ⟨G1, k1, rg1, q⟩ => by
    cases d with
    | true => exact ⟨ρ, G1, A, q.h, rs.mono k1, rg1, CD.pre k1⟩
    | false => exact ⟨ρ, G1, A, q.h, rs.mono k1, rg1, CD.pre k1⟩⟩
/-- the state behind a statement told anew -/
theorem s_cut {P : AS → AH → Prop} (h : S1 X st ρ G { A with nx := P }) (k : ∀ ρ' G', P ρ' G' → A.nx ρ' G') : S1 X st ρ G A := h.mono k (fun _ _ z => z) (fun _ _ z => z) (fun _ _ z => z)

/-! ### targets -/
theorem g_name {x : Str} {i : Nat} {w : W} {K : AS → AH → Prop} (hN : X.N.Nodup) (k : K (ρ.set i (some w)) G) (hi : X.N[i]? = some x := by rfl) (hx : Loc X.env.scope x := by first | exact .inl rfl | exact .inr rfl)
    (hf : X.fn x = true ∨ X.env.scope.names.lookup x = some .local := by first | exact .inl rfl | exact .inr rfl) : GQ X (.Name x pos) w ρ G K :=
  GQ.of (pg_name hN hi hx hf) fun v σ H rs rg rv => ⟨_, G, Keep.refl, rs.set i rv, rg, k⟩
theorem gs_nil {K : AS → AH → Prop} (k : K ρ G) : GsQ X [] [] ρ G K := GsQ.of pgs_nil fun v σ H rs rg rv => ⟨rv, ρ, G, Keep.refl, rs, rg, k⟩
theorem gs_cons {w : W} {ws : List W} {es : List Expr} {K : AS → AH → Prop} (h : GQ X e w ρ G fun ρ1 G1 => GsQ X es ws ρ1 G1 K)
    (hs : (assignEach (e :: es) X.env).map (·.2) = assign e X.env :: (assignEach es X.env).map (·.2) := by rfl) : GsQ X (e :: es) (w :: ws) ρ G K :=
  GsQ.of (pgs_cons pg_G pgs_G hs) fun v σ H rs rg ⟨v1, vr, e1, r1, r2⟩ => ⟨v1, vr, e1, w, ρ, G, _, h, rs, rg, r1, fun σ' H' ⟨ρ', G', k, rs', rg', q⟩ => ⟨ws, ρ', G', K, q, rs', rg', r2.mono k, fun _ _ z => z.pre k⟩⟩
def onT (z : W) (k : List W → Prop) : Prop := match z with
  | .tup xs => k xs
  | _ => False
theorem g_tup {es : List Expr} {kk n : Nat} {ws : List W} {K : AS → AH → Prop} (hl : ws.length = n) (h : GsQ X es ws ρ G K) (hc : X.calm = true := by rfl)
    (hn : (assignEach es X.env).length = n := by rfl) (hst : (assignEach es X.env).findIdx? (·.1) = none := by rfl) : GQ X (.Tuple es kk pos) (.tup ws) ρ G K :=
  GQ.of (pg_tup hc pgs_G hn hst) fun v σ H rs rg ⟨a, vs, e, ha, r⟩ => ⟨a, vs, e, SqT.of ha, r.length.symm.trans hl, ws, ρ, G, K, h, rs, rg, r, fun _ _ z => z⟩
/-- o[i] = .. : set RS': what is asked of o, i, the value -/
def SetR (c : Ct) (t : TSet) (R : W → W → W → AH → (AH → Prop) → Prop) : Prop := ∀ o i w u j v H G K (Q : Hp → Prop), RV H o u → RV H i j → RV H w v → RG c H G → R o i w G K → (∀ H' G', Keep H H' → RG c H' G' → K G' → Q H') → t u j v H Q
theorem g_sub {o i : Expr} {w : W} {t : TSet} {R : W → W → W → AH → (AH → Prop) → Prop} {K : AS → AH → Prop} (hs : PSet X t) (rr : SetR (cc X) t R) (h : EQ X o ρ G fun x G1 => EQ X i ρ G1 fun y G2 => R x y w G2 (K ρ))
    (ha : ∀ v, assign (.Subscript o i pos) X.env v = (do
      let ov ← holding [v] (eval o X.env)
      let iv ← holding [v, ov] (eval i X.env)
      standAt pos
      holding [v, ov, iv] (setItem ov iv v)
      release [v, ov, iv] []) := by intro _; rfl) : GQ X (.Subscript o i pos) w ρ G K :=
  GQ.of (pg_sub pe_E pe_E hs ha) fun v σ H rs rg rv => ⟨ρ, G, _, h, rs, rg, fun u H1 ⟨x, G1, k1, rx, rg1, hb⟩ => ⟨ρ, G1, _, hb, rs.mono k1, rg1, fun j H2 ⟨y, G2, k2, ry, rg2, hr⟩ =>
    rr x y w u j v H2 G2 _ _ (rx.mono k2) ry (rv.mono (k1.trans k2)) rg2 hr fun H' G' k3 g3 q => ⟨ρ, G', (k1.trans k2).trans k3, (rs.mono (k1.trans k2)).mono k3, g3, q⟩⟩⟩
/-- a list's item -/
def fSet : W → W → W → AH → (AH → Prop) → Prop := fun o i w G K => match o, i with
  | .ref a, .int k => ∃ xs j, G a = some (.lst xs) ∧ ixN xs.length k = some j ∧ K (aup G a (.lst (xs.set j w)))
  | _, _ => False
theorem sr_list {c : Ct} : SetR c rSetL fSet := by
  intro o i w u j v H G K Q ro ri rw' g h q
  cases o with
  | ref a => cases i with
    | int k =>
      have e1 : u = .ref a := ro
      have e2 : j = .int k := ri
      subst e1 e2
      obtain ⟨xs, jj, ha, hj, kk⟩ := h
      obtain ⟨vs, hv, r⟩ := g.lst ha
      obtain ⟨k3, g3⟩ := g.mutL hv (r.set rw' jj)
      exact ⟨a, vs, k, jj, rfl, rfl, hv, by rw [← r.length]; exact hj, q _ _ k3 g3 kk⟩
    | _ => exact h.elim
  | _ => exact h.elim
theorem g_ix {o i : Expr} {w : W} {K : AS → AH → Prop} (h : EQ X o ρ G fun x G1 => EQ X i ρ G1 fun y G2 => fSet x y w G2 (K ρ))
    (ha : ∀ v, assign (.Subscript o i pos) X.env v = (do
      let ov ← holding [v] (eval o X.env)
      let iv ← holding [v, ov] (eval i X.env)
      standAt pos
      holding [v, ov, iv] (setItem ov iv v)
      release [v, ov, iv] []) := by intro _; rfl) : GQ X (.Subscript o i pos) w ρ G K := g_sub set_list sr_list h ha
/-- target = value -/
theorem s_asg {tg : Expr} (h : EQ X e ρ G fun w G1 => GQ X tg w ρ G1 A.nx) (hs : swapsWithSole [tg] e pos.line X.env = pure false := by rfl) (hw : swappedStores [tg] e X.env = pure none := by rfl)
    (h1 : (assignEach [tg] X.env).map (·.2) = [assign tg X.env] := by rfl) : S1 X (.Assign [tg] e pos) ρ G A :=
  S1.of (ps_asg pe_E pg_G hs hw h1) fun σ H rs rg => ⟨ρ, G, _, h, rs, rg, fun u H1 ⟨x, G1, k1, rx, rg1, q⟩ => ⟨x, ρ, G1, _, q, rs.mono k1, rg1, rx, fun σ' H' z => z.pre k1⟩⟩
/-- name = value -/
theorem s_set {x : Str} {i : Nat} {pos' : Pos} (hN : X.N.Nodup) (h : EQ X e ρ G fun w G1 => A.nx (ρ.set i (some w)) G1) (hi : X.N[i]? = some x := by rfl) (hx : Loc X.env.scope x := by first | exact .inl rfl | exact .inr rfl)
    (hs : swapsWith e (some (.Name x pos')) pos.line X.env = pure false := by rfl) (hf : X.fn x = true ∨ X.env.scope.names.lookup x = some .local := by first | exact .inl rfl | exact .inr rfl) : S1 X (.Assign [.Name x pos'] e pos) ρ G A :=
  S1.of (ps_set hN hi hx pe_E hs hf) fun σ H rs rg => ⟨ρ, G, _, h, rs, rg, fun u H1 ⟨w, G1, k1, rx, rg1, q⟩ => ⟨_, G1, k1, (rs.mono k1).set i rx, rg1, q⟩⟩
/-- a, b = e1, e2 with plain local names -/
theorem s_par {i j : Nat} {x y : Str} {px py pt : Pos} {kt k2 : Nat} {pt2 : Pos} (hN : X.N.Nodup) (h : EQ X a ρ G fun w G1 => EQ X b ρ G1 fun w' G2 => A.nx ((ρ.set i (some w)).set j (some w')) G2)
    (hw : swappedStores [.Tuple [.Name x px, .Name y py] kt pt] (.Tuple [a, b] k2 pt2) X.env = pure (some [x, y]) := by rfl) (hs1 : starEach [b] X.env = (false, eval b X.env) :: starEach [] X.env := by rfl) (hs2 : starEach [a, b] X.env = (false, eval a X.env) :: starEach [b] X.env := by rfl) (hc : X.calm = true := by rfl) (hi : X.N[i]? = some x := by rfl) (hj : X.N[j]? = some y := by rfl) (hij : i ≠ j := by decide)
    (hx : X.env.scope.names.lookup x = some .local := by rfl) (hy : X.env.scope.names.lookup y = some .local := by rfl)
    (hs : swapsWithSole [.Tuple [.Name x px, .Name y py] kt pt] (.Tuple [a, b] k2 pt2) pos.line X.env = pure false := by rfl) : S1 X (.Assign [.Tuple [.Name x px, .Name y py] kt pt] (.Tuple [a, b] k2 pt2) pos) ρ G A :=
  S1.of (ps_par hc hN hi hj hij hx hy (pa_cons pe_E (pa_cons pe_E pa_nil hs1) hs2) hw hs) fun σ H rs rg => ⟨ρ, G, _, h, rs, rg, fun u H1 ⟨w, G1, k1, rx, rg1, q⟩ => ⟨ρ, G1, _, q, rs.mono k1, rg1, fun v H2 ⟨w', G2, k2, ry, rg2, q2⟩ =>
    ⟨u, v, rfl, _, G2, k1.trans k2, ((rs.mono (k1.trans k2)).set i (rx.mono k2)).set j ry, rg2, q2⟩⟩⟩
/-- name op= value, on whole numbers -/
theorem s_augI {x : Str} {i : Nat} {op : Operator} {f : Int → Int → Int} {z : Int} {pos' : Pos} (hN : X.N.Nodup) (ho : PIp X op (ipI f)) (hρ : ρ[i]? = some (some (.int z))) (h : EQ X e ρ G fun w G1 => onI w fun j => A.nx (ρ.set i (some (.int (f z j)))) G1)
    (hi : X.N[i]? = some x := by rfl) (hx : Loc X.env.scope x := by first | exact .inl rfl | exact .inr rfl)
    (hf : X.fn x = true ∨ X.env.scope.names.lookup x = some .local := by first | exact .inl rfl | exact .inr rfl) : S1 X (.AugAssign (.Name x pos') op e pos) ρ G A :=
  S1.of (ps_aug hN hi hx pe_E ho hf) fun σ H rs rg => by
    obtain ⟨v, h1, h2⟩ := rs.2 i _ hρ
    have e1 : v = .int z := h2
    subst e1
    refine ⟨_, h1, ρ, G, _, h, rs, rg, fun u H1 ⟨w, G1, k1, rx, rg1, q⟩ => ?_⟩
    cases w with
    | int j => exact ⟨z, j, rfl, rx, _, G1, k1, (rs.mono k1).set i (show RV H1 (.int (f z j)) (.int (f z j)) from rfl), rg1, q⟩
    | _ => exact q.elim
theorem s_addI {x : Str} {i : Nat} {z : Int} {pos' : Pos} (hN : X.N.Nodup) (hρ : ρ[i]? = some (some (.int z))) (h : EQ X e ρ G fun w G1 => onI w fun j => A.nx (ρ.set i (some (.int (z + j)))) G1)
    (hi : X.N[i]? = some x := by rfl) (hx : Loc X.env.scope x := by first | exact .inl rfl | exact .inr rfl)
    (hf : X.fn x = true ∨ X.env.scope.names.lookup x = some .local := by first | exact .inl rfl | exact .inr rfl) : S1 X (.AugAssign (.Name x pos') .Add e pos) ρ G A := s_augI hN ip_add hρ h hi hx hf
/-- while -/
theorem s_while {c : Expr} {body : List Stmt} (hp : PassesOwn (model X.prog X.w) X.A X.env X.xe) (P : AS → AH → Prop) (μ : AS → AH → Nat) (h0 : P ρ G)
    (h : ∀ ρ G, P ρ G → BQ X c ρ G fun d G1 => ifB d (SQ X body ρ G1 { A with nx := fun ρ' G' => P ρ' G' ∧ μ ρ' G' < μ ρ G, ct := fun ρ' G' => P ρ' G' ∧ μ ρ' G' < μ ρ G, bk := A.nx }) (A.nx ρ G1)) : S1 X (.While c body [] pos) ρ G A :=
  S1.of (ps_while hp pt_T pss_S) fun σ H rs rg => by
    refine ⟨fun m σ' H' => ∃ ρ' G', m = μ ρ' G' ∧ Keep H H' ∧ RS H' σ' ρ' ∧ RG (cc X) H' G' ∧ P ρ' G', ⟨_, ρ, G, rfl, Keep.refl, rs, rg, h0⟩, ?_⟩
    rintro m σ1 H1 ⟨ρ1, G1, rfl, k1, rs1, rg1, p1⟩
    refine ⟨ρ1, G1, _, h ρ1 G1 p1, rs1, rg1, fun d H2 ⟨G2, k2, rg2, q⟩ => ?_⟩
    cases d with
    | false => exact ⟨ρ1, G2, k1.trans k2, rs1.mono k2, rg2, q.h⟩
    | true =>
      refine ⟨fun σ' H' => ∃ ρ' G', (P ρ' G' ∧ μ ρ' G' < μ ρ1 G1) ∧ Keep H H' ∧ RS H' σ' ρ' ∧ RG (cc X) H' G', fun σ' H' ⟨ρ', G', ⟨p', l⟩, k, rs', rg'⟩ => ⟨_, l, ρ', G', rfl, k, rs', rg', p'⟩, ρ1, G2, _, q.h, rs1.mono k2, rg2, ?_⟩
      refine ⟨fun σ' H' ⟨ρ', G', k, rs', rg', q'⟩ => ⟨ρ', G', q', (k1.trans k2).trans k, rs', rg'⟩, fun _ _ z => z.pre (k1.trans k2), fun _ _ z => z.pre (k1.trans k2), fun σ' H' ⟨ρ', G', k, rs', rg', q'⟩ => ⟨ρ', G', q', (k1.trans k2).trans k, rs', rg'⟩⟩
end

/-! ### what is walked -/
/-- from H1 on, where ok stands, the iterator yields xs one by one -/
structure IterOk (c : Ct) (J : It) (H1 : Hp) (xs : List W) (ok : AH → Prop) : Prop where
  go : ∀ i H G, Keep H1 H → RG c H G → ok G → i < xs.length → J.go i H
  yld : ∀ i H G v H', Keep H1 H → RG c H G → ok G → i < xs.length → J.yld i H v H' → Keep H H' ∧ RG c H' G ∧ ∃ w, xs[i]? = some w ∧ RV H' w v
  stop : ∀ i H G, Keep H1 H → RG c H G → ok G → xs.length ≤ i → J.stop i H
abbrev IK := List W → (AH → Prop) → AH → Prop
def CI (c : Ct) (H : Hp) (R : IK) : It → Hp → Prop := fun J H' => ∃ xs ok G', Keep H H' ∧ RG c H' G' ∧ IterOk c J H' xs ok ∧ R xs ok G'
structure IQ (X : Cx) (tg iter : Expr) (ρ : AS) (G : AH) (R : IK) : Prop where
  run : ∀ (pins : List (Addr × Obj)) (s : Shared) (σ : St) (H : Hp), Inv X pins σ H s → RS H σ ρ → RG (cc X) H G →
    wpAny (model X.prog X.w) X.A (eval iter X.env) (fun v s1 => wpAny (model X.prog X.w) X.A (pyIter v) (PIE X pins σ tg (CI (cc X) H R)) X.xe s1) X.xe s
def tI (X : Cx) (tg iter : Expr) : TI := fun σ H R' => ∃ ρ G R, IQ X tg iter ρ G R ∧ RS H σ ρ ∧ RG (cc X) H G ∧ ∀ J H', CI (cc X) H R J H' → R' J H'
section
variable {X : Cx} {tg iter a b e : Expr} {pos : Pos} {ρ : AS} {G : AH} {R : IK} {A : AEnds}
theorem pi_I : PI X tg iter (tI X tg iter) := ⟨fun pins s σ H R' I ⟨ρ, G, R, h, rs, rg, k⟩ => thn (h.run pins s σ H I rs rg) fun v s1 q => thn q fun itv s2 ⟨it, fp, tn, J, H', e, I2, T, st, f, r⟩ => ⟨it, fp, tn, J, H', e, I2, T, st, f, k J H' r⟩⟩
theorem IQ.of {t : TI} (h : PI X tg iter t) (k : ∀ σ H, RS H σ ρ → RG (cc X) H G → t σ H (CI (cc X) H R)) : IQ X tg iter ρ G R := ⟨fun pins s σ H I rs rg => h.run pins s σ H _ I (k σ H rs rg)⟩
theorem s_for {body : List Stmt} (hp : PassesOwn (model X.prog X.w) X.A X.env X.xe) (hc : X.calm = true)
    (h : IQ X tg iter ρ G fun xs ok G1 => ∃ P : Nat → AS → AH → Prop, P 0 ρ G1 ∧ (∀ i ρ' G', i ≤ xs.length → P i ρ' G' → ok G') ∧
      (∀ i x ρ' G', xs[i]? = some x → P i ρ' G' → GQ X tg x ρ' G' fun ρ2 G2 => SQ X body ρ2 G2 { A with nx := P (i + 1), ct := P (i + 1), bk := A.nx }) ∧ ∀ ρ' G', P xs.length ρ' G' → A.nx ρ' G')
    (hs : ∀ x, foldedSetIterable iter X.env x = pure x := by intro _; rfl) : S1 X (.For tg iter body [] pos) ρ G A :=
  S1.of (ps_for hp hc pi_I pg_G pss_S hs) fun σ H rs rg => by
    refine ⟨ρ, G, _, h, rs, rg, ?_⟩
    rintro J H1 ⟨xs, ok, G1, k1, rg1, io, P, p0, pok, turn, fin⟩
    refine ⟨fun i m σ' H' => ∃ ρ' G', m = xs.length - i ∧ i ≤ xs.length ∧ Keep H1 H' ∧ RS H' σ' ρ' ∧ RG (cc X) H' G' ∧ P i ρ' G', ⟨_, ρ, G1, rfl, Nat.zero_le _, Keep.refl, rs.mono k1, rg1, p0⟩, ?_⟩
    rintro i m σ2 H2 ⟨ρ2, G2, rfl, hi, k2, rs2, rg2, p2⟩
    by_cases hlt : i < xs.length
    · refine .inr ⟨io.go i H2 G2 k2 rg2 (pok i ρ2 G2 hi p2) hlt, fun σ' H' => ∃ ρ' G', Keep H1 H' ∧ RS H' σ' ρ' ∧ RG (cc X) H' G' ∧ P (i + 1) ρ' G', fun σ' H' ⟨ρ', G', k, rs', rg', p'⟩ => ⟨xs.length - (i + 1), by omega, ρ', G', rfl, hlt, k, rs', rg', p'⟩, fun x H' y => ?_⟩
      obtain ⟨k3, rg3, w, hw, rw'⟩ := io.yld i H2 G2 x H' k2 rg2 (pok i ρ2 G2 hi p2) hlt y
      refine ⟨w, ρ2, G2, _, turn i w ρ2 G2 hw p2, rs2.mono k3, rg3, rw', ?_⟩
      rintro σ4 H4 ⟨ρ4, G4, k4, rs4, rg4, q4⟩
      have kk : Keep H1 H4 := (k2.trans k3).trans k4
      refine ⟨ρ4, G4, _, q4, rs4, rg4, ?_⟩
      exact ⟨fun σ' H' ⟨ρ', G', k, rs', rg', q'⟩ => ⟨ρ', G', kk.trans k, rs', rg', q'⟩, fun _ _ z => z.pre (k1.trans kk), fun _ _ z => z.pre (k1.trans kk), fun σ' H' ⟨ρ', G', k, rs', rg', q'⟩ => ⟨ρ', G', kk.trans k, rs', rg', q'⟩⟩
    · have e : i = xs.length := by omega
      subst e
      exact .inl ⟨io.stop _ H2 G2 k2 rg2 (pok _ ρ2 G2 hi p2) (Nat.le_refl _), ρ2, G2, k1.trans k2, rs2, rg2, fin ρ2 G2 p2⟩

/-! ### lists, tuples, ranges walked -/
theorem i_list (h : EQ X iter ρ G fun w G1 => ∃ a xs, w = .ref a ∧ G1 a = some (.lst xs) ∧ R xs (fun G => G a = some (.lst xs)) G1) : IQ X tg iter ρ G R :=
  IQ.of (pi_list pe_E) fun σ H rs rg => ⟨ρ, G, _, h, rs, rg, fun u H1 ⟨w, G1, k1, rx, rg1, a, xs, e, ha, q⟩ => by
    subst e
    have e1 : u = .ref a := rx
    subst e1
    obtain ⟨vs, hv, _⟩ := rg1.lst ha
    refine ⟨a, rfl, ⟨vs, SqL.of hv⟩, xs, _, G1, k1, rg1, ⟨fun i H2 G2 k2 rg2 o2 hi => ?_, fun i H2 G2 v H3 k2 rg2 o2 hi y => ?_, fun i H2 G2 k2 rg2 o2 hi => ?_⟩, q⟩
    · obtain ⟨vs2, hv2, r2⟩ := rg2.lst o2
      obtain ⟨v, h1, _⟩ := r2.get (show xs[i]? = some xs[i] by simp [hi])
      exact ⟨vs2, v, SqL.of hv2, h1⟩
    · obtain ⟨e, y⟩ := y
      subst e
      obtain ⟨vs2, hv2, r2⟩ := rg2.lst o2
      exact ⟨Keep.refl, rg2, r2.back (y vs2 (SqL.of hv2))⟩
    · obtain ⟨vs2, hv2, r2⟩ := rg2.lst o2
      exact ⟨vs2, SqL.of hv2, by rw [← r2.length]; exact hi⟩⟩
theorem i_tup (h : EQ X iter ρ G fun w G1 => onT w fun xs => R xs (fun _ => True) G1) : IQ X tg iter ρ G R :=
  IQ.of (pi_tup pe_E) fun σ H rs rg => ⟨ρ, G, _, h, rs, rg, fun u H1 ⟨w, G1, k1, rx, rg1, q⟩ => by
    cases w with
    | tup xs =>
      obtain ⟨a, vs, e1, hv, r⟩ := rx
      subst e1
      refine ⟨a, rfl, ⟨vs, SqT.of hv⟩, xs, _, G1, k1, rg1, ⟨fun i H2 G2 k2 rg2 o2 hi => ?_, fun i H2 G2 v H3 k2 rg2 o2 hi y => ?_, fun i H2 G2 k2 rg2 o2 hi => ?_⟩, q⟩
      · obtain ⟨v, h1, _⟩ := r.get (show xs[i]? = some xs[i] by simp [hi])
        exact ⟨vs, v, SqT.of (k2 _ _ hv), h1⟩
      · obtain ⟨e, y⟩ := y
        subst e
        obtain ⟨w, h1, h2⟩ := r.back (y vs (SqT.of (k2 _ _ hv)))
        exact ⟨Keep.refl, rg2, w, h1, h2.mono k2⟩
      · exact ⟨vs, SqT.of (k2 _ _ hv), by rw [← r.length]; exact hi⟩
    | _ => exact q.elim⟩
/-- lo, lo + c, .. (n of them) -/
def rngW (lo c : Int) (n : Nat) : List W := (List.range n).map fun i => W.int (lo + (i : Nat) * c)
theorem rngW_length (lo c : Int) (n : Nat) : (rngW lo c n).length = n := by simp [rngW]
theorem rngW_get {lo c : Int} {n i : Nat} (h : i < n) : (rngW lo c n)[i]? = some (.int (lo + (i : Nat) * c)) := by simp [rngW, h]
theorem rng_item {lo c : Int} {n m : Nat} {x : W} (h : (rngW lo c n)[m]? = some x) : m < n ∧ x = .int (lo + (m : Nat) * c) := by
  have l := (List.getElem?_eq_some_iff.mp h).1
  rw [rngW_length] at l
  rw [rngW_get l] at h
  exact ⟨l, (Option.some.inj h).symm⟩
theorem rng0_item {n m : Nat} {x : W} (h : (rngW 0 1 n)[m]? = some x) : m < n ∧ x = .int (m : Nat) := by
  obtain ⟨h1, h2⟩ := rng_item h
  refine ⟨h1, ?_⟩
  rw [h2]
  congr 1
  omega
theorem io_rng {c : Ct} {H1 : Hp} {lo : Int} {n : Nat} : IterOk c (Itr lo n) H1 (rngW lo 1 n) (fun _ => True) :=
  ⟨fun i H G _ _ _ hi => by rw [rngW_length] at hi; exact hi, fun i H G v H' _ rg _ hi y => by
    obtain ⟨e, y⟩ := y
    subst e y
    rw [rngW_length] at hi
    exact ⟨Keep.refl, rg, _, rngW_get hi, by show V.int (lo + i) = V.int (lo + (i : Nat) * 1); rw [Int.mul_one]⟩, fun i H G _ _ _ hi => by rw [rngW_length] at hi; exact hi⟩
theorem io_rngC {c : Ct} {H1 : Hp} {lo d : Int} {n : Nat} : IterOk c (Itc lo d n) H1 (rngW lo d n) (fun _ => True) :=
  ⟨fun i H G _ _ _ hi => by rw [rngW_length] at hi; exact hi, fun i H G v H' _ rg _ hi y => by
    obtain ⟨e, y⟩ := y
    subst e y
    rw [rngW_length] at hi
    exact ⟨Keep.refl, rg, _, rngW_get hi, rfl⟩, fun i H G _ _ _ hi => by rw [rngW_length] at hi; exact hi⟩
theorem i_range1 {p : Pos} (hg : Gl X "range") (hm : X.mg "range" = none) (h : EQ X a ρ G fun w G1 => onI w fun j => -(2 ^ 62) ≤ j ∧ j < 2 ^ 62 ∧ R (rngW 0 1 j.toNat) (fun _ => True) G1) (hs : starEach [a] X.env = (false, eval a X.env) :: starEach [] X.env := by rfl) :
    IQ X tg (.Call (.Name "range" p) [a] [] pos) ρ G R :=
  IQ.of (pi_range1 hg hm (pa_cons pe_E pa_nil hs) (by rw [hs]; rfl)) fun σ H rs rg => ⟨ρ, G, _, h, rs, rg, fun u H1 ⟨w, G1, k1, rx, rg1, q⟩ => by
    cases w with
    | int j =>
      have e1 : u = .int j := rx
      subst e1
      exact ⟨j, rfl, q.1, q.2.1, _, _, G1, k1, rg1, io_rng, q.2.2⟩
    | _ => exact q.elim⟩
theorem i_range2 {p : Pos} (hg : Gl X "range") (hm : X.mg "range" = none) (h : EQ X a ρ G fun w G1 => EQ X b ρ G1 fun w' G2 => onI w fun i => onI w' fun j => (-(2 ^ 62) ≤ i ∧ i < 2 ^ 62 ∧ -(2 ^ 62) ≤ j ∧ j < 2 ^ 62) ∧ R (rngW i 1 (j - i).toNat) (fun _ => True) G2)
    (hs : starEach [b] X.env = (false, eval b X.env) :: starEach [] X.env := by rfl) (hs2 : starEach [a, b] X.env = (false, eval a X.env) :: starEach [b] X.env := by rfl) :
    IQ X tg (.Call (.Name "range" p) [a, b] [] pos) ρ G R :=
  IQ.of (pi_range2 hg hm (pa_cons pe_E (pa_cons pe_E pa_nil hs) hs2) (by rw [hs2, hs]; rfl) (by rw [hs]; rfl)) fun σ H rs rg => ⟨ρ, G, _, h, rs, rg, fun u H1 ⟨w, G1, k1, rx, rg1, q⟩ => ⟨ρ, G1, _, q, rs.mono k1, rg1, fun u2 H2 ⟨w2, G2, k2, ry, rg2, q⟩ => by
    cases w with
    | int i =>
      cases w2 with
      | int j =>
        have e1 : u = .int i := rx
        subst e1
        have e2 : u2 = .int j := ry
        subst e2
        exact ⟨i, j, rfl, q.1, _, _, G2, k1.trans k2, rg2, io_rng, q.2⟩
      | _ => exact q.elim
    | _ => exact q.elim⟩⟩
theorem i_range3 {c : Expr} {p : Pos} (hg : Gl X "range") (hm : X.mg "range" = none) (h : EQ X a ρ G fun w G1 => EQ X b ρ G1 fun w' G2 => EQ X c ρ G2 fun w3 G3 => onI w fun i => onI w' fun j => onI w3 fun d => ∃ n, RgC i j d n ∧ R (rngW i d n) (fun _ => True) G3)
    (hs : starEach [c] X.env = (false, eval c X.env) :: starEach [] X.env := by rfl) (hs2 : starEach [b, c] X.env = (false, eval b X.env) :: starEach [c] X.env := by rfl) (hs3 : starEach [a, b, c] X.env = (false, eval a X.env) :: starEach [b, c] X.env := by rfl) :
    IQ X tg (.Call (.Name "range" p) [a, b, c] [] pos) ρ G R :=
  IQ.of (pi_range3 hg hm (pa_cons pe_E (pa_cons pe_E (pa_cons pe_E pa_nil hs) hs2) hs3) hs3 (by rw [hs2, hs]; rfl)) fun σ H rs rg => ⟨ρ, G, _, h, rs, rg, fun u H1 ⟨w, G1, k1, rx, rg1, q⟩ => ⟨ρ, G1, _, q, rs.mono k1, rg1, fun u2 H2 ⟨w2, G2, k2, ry, rg2, q⟩ =>
   ⟨ρ, G2, _, q, rs.mono (k1.trans k2), rg2, fun u3 H3 ⟨w3, G3, k3, rz, rg3, q⟩ => by
    cases w with
    | int i =>
      cases w2 with
      | int j =>
        cases w3 with
        | int d =>
          have e1 : u = .int i := rx
          subst e1
          have e2 : u2 = .int j := ry
          subst e2
          have e3 : u3 = .int d := rz
          subst e3
          obtain ⟨n, q1, q2⟩ := q
          exact ⟨i, j, d, n, rfl, q1, _, _, G3, (k1.trans k2).trans k3, rg3, io_rngC, q2⟩
        | _ => exact q.elim
      | _ => exact q.elim
    | _ => exact q.elim⟩⟩⟩
/-- enumerate of a list -/
def enW (xs : List W) : List W := xs.zipIdx.map fun p => .tup [.int (p.2 : Nat), p.1]
theorem enW_length (xs : List W) : (enW xs).length = xs.length := by simp [enW]
theorem enW_get {xs : List W} {i : Nat} {w : W} (h : xs[i]? = some w) : (enW xs)[i]? = some (.tup [.int (i : Nat), w]) := by simp [enW, h]
theorem i_enum {elts : List Expr} {kk : Nat} {p tpos : Pos} (hg : Gl X "enumerate") (hm : X.mg "enumerate" = none) (h : EQ X a ρ G fun w G1 => ∃ l xs, w = .ref l ∧ G1 l = some (.lst xs) ∧ R (enW xs) (fun G => G l = some (.lst xs)) G1) (hs : starEach [a] X.env = (false, eval a X.env) :: starEach [] X.env := by rfl) :
    IQ X (.Tuple elts kk tpos) (.Call (.Name "enumerate" p) [a] [] pos) ρ G R :=
  IQ.of (pi_enum hg hm (pa_cons pe_E pa_nil hs) (by rw [hs]; rfl)) fun σ H rs rg => ⟨ρ, G, _, h, rs, rg, fun u H1 ⟨w, G1, k1, rx, rg1, a, xs, e, ha, q⟩ => by
    subst e
    have e1 : u = .ref a := rx
    subst e1
    obtain ⟨vs, hv, _⟩ := rg1.lst ha
    refine ⟨a, vs, rfl, SqL.of hv, enW xs, _, G1, k1, rg1, ⟨fun i H2 G2 k2 rg2 o2 hi => ?_, fun i H2 G2 v H3 k2 rg2 o2 hi y => ?_, fun i H2 G2 k2 rg2 o2 hi => ?_⟩, q⟩
    · rw [enW_length] at hi
      obtain ⟨vs2, hv2, r2⟩ := rg2.lst o2
      obtain ⟨v, h1, _⟩ := r2.get (show xs[i]? = some xs[i] by simp [hi])
      exact ⟨vs2, v, SqL.of hv2, h1⟩
    · obtain ⟨T, x, e1, hT, e2, y⟩ := y
      subst e1 e2
      obtain ⟨vs2, hv2, r2⟩ := rg2.lst o2
      obtain ⟨w, h1, h2⟩ := r2.back (y vs2 (SqL.of hv2))
      exact ⟨Keep.new hT, rg2.tup hT, _, enW_get h1, T, _, rfl, upd_same, .cons (show RV _ (.int _) _ from rfl) (.cons (h2.mono (Keep.new hT)) RVs.nil)⟩
    · rw [enW_length] at hi
      obtain ⟨vs2, hv2, r2⟩ := rg2.lst o2
      exact ⟨vs2, SqL.of hv2, by rw [← r2.length]; exact hi⟩⟩
/-- zip of two lists, of two tuples -/
def ziW (xs ys : List W) : List W := (xs.zip ys).map fun p => .tup [p.1, p.2]
theorem ziW_length (xs ys : List W) : (ziW xs ys).length = min xs.length ys.length := by simp [ziW]
theorem ziW_get {xs ys : List W} {i : Nat} {w v : W} (h : xs[i]? = some w) (h2 : ys[i]? = some v) : (ziW xs ys)[i]? = some (.tup [w, v]) := by
  have e : (xs.zip ys)[i]? = some (w, v) := by rw [List.getElem?_zip_eq_some]; exact ⟨h, h2⟩
  simp only [ziW, List.getElem?_map, e]
  rfl
theorem i_zip {elts : List Expr} {kk : Nat} {p tpos : Pos} (hg : Gl X "zip") (hm : X.mg "zip" = none) (h : EQ X a ρ G fun w G1 => EQ X b ρ G1 fun w' G2 => ∃ l m xs ys, w = .ref l ∧ w' = .ref m ∧ G2 l = some (.lst xs) ∧ G2 m = some (.lst ys) ∧ R (ziW xs ys) (fun G => G l = some (.lst xs) ∧ G m = some (.lst ys)) G2)
    (hs : starEach [b] X.env = (false, eval b X.env) :: starEach [] X.env := by rfl) (hs2 : starEach [a, b] X.env = (false, eval a X.env) :: starEach [b] X.env := by rfl) :
    IQ X (.Tuple elts kk tpos) (.Call (.Name "zip" p) [a, b] [] pos) ρ G R :=
  IQ.of (pi_zip hg hm (pa_cons pe_E (pa_cons pe_E pa_nil hs) hs2) hs2 (by rw [hs]; rfl)) fun σ H rs rg => ⟨ρ, G, _, h, rs, rg, fun u H1 ⟨w, G1, k1, rx, rg1, q⟩ => ⟨ρ, G1, _, q, rs.mono k1, rg1, fun u2 H2 ⟨w2, G2, k2, ry, rg2, l, m, xs, ys, e1, e2, hl, hm', q2⟩ => by
    subst e1 e2
    have e1 : u = .ref l := rx
    have e2 : u2 = .ref m := ry
    subst e1 e2
    obtain ⟨vs, hv, _⟩ := rg2.lst hl
    obtain ⟨us, hu, _⟩ := rg2.lst hm'
    refine ⟨l, m, vs, us, rfl, SqL.of hv, SqL.of hu, ziW xs ys, _, G2, k1.trans k2, rg2, ⟨fun i H3 G3 k3 rg3 o3 hi => ?_, fun i H3 G3 v H4 k3 rg3 o3 hi y => ?_, fun i H3 G3 k3 rg3 o3 hi => ?_⟩, q2⟩
    · rw [ziW_length] at hi
      obtain ⟨vs2, hv2, r2⟩ := rg3.lst o3.1
      obtain ⟨us2, hu2, s2⟩ := rg3.lst o3.2
      obtain ⟨v, h1, _⟩ := r2.get (show xs[i]? = some (xs[i]'(by omega)) by simp [show i < xs.length by omega])
      obtain ⟨v', h2, _⟩ := s2.get (show ys[i]? = some (ys[i]'(by omega)) by simp [show i < ys.length by omega])
      exact ⟨vs2, us2, v, v', SqL.of hv2, SqL.of hu2, h1, h2⟩
    · obtain ⟨T, x, x', e1, hT, e2, y, y'⟩ := y
      subst e1 e2
      obtain ⟨vs2, hv2, r2⟩ := rg3.lst o3.1
      obtain ⟨us2, hu2, s2⟩ := rg3.lst o3.2
      obtain ⟨w, h1, h2⟩ := r2.back (y vs2 (SqL.of hv2))
      obtain ⟨w', h1', h2'⟩ := s2.back (y' us2 (SqL.of hu2))
      exact ⟨Keep.new hT, rg3.tup hT, _, ziW_get h1 h1', T, _, rfl, upd_same, .cons (h2.mono (Keep.new hT)) (.cons (h2'.mono (Keep.new hT)) RVs.nil)⟩
    · rw [ziW_length] at hi
      obtain ⟨vs2, hv2, r2⟩ := rg3.lst o3.1
      obtain ⟨us2, hu2, s2⟩ := rg3.lst o3.2
      exact ⟨vs2, us2, SqL.of hv2, SqL.of hu2, by rw [← r2.length, ← s2.length]; omega⟩⟩⟩
theorem i_zipT {elts : List Expr} {kk : Nat} {p tpos : Pos} (hg : Gl X "zip") (hm : X.mg "zip" = none) (h : EQ X a ρ G fun w G1 => EQ X b ρ G1 fun w' G2 => onT w fun xs => onT w' fun ys => R (ziW xs ys) (fun _ => True) G2)
    (hs : starEach [b] X.env = (false, eval b X.env) :: starEach [] X.env := by rfl) (hs2 : starEach [a, b] X.env = (false, eval a X.env) :: starEach [b] X.env := by rfl) :
    IQ X (.Tuple elts kk tpos) (.Call (.Name "zip" p) [a, b] [] pos) ρ G R :=
  IQ.of (RZ.pi_zipA hg hm (pa_cons pe_E (pa_cons pe_E pa_nil hs) hs2) hs2 (by rw [hs]; rfl)) fun σ H rs rg => ⟨ρ, G, _, h, rs, rg, fun u H1 ⟨w, G1, k1, rx, rg1, q⟩ => ⟨ρ, G1, _, q, rs.mono k1, rg1, fun u2 H2 ⟨w2, G2, k2, ry, rg2, q⟩ => by
    cases w with
    | tup xs =>
      cases w2 with
      | tup ys =>
        obtain ⟨l, vs, e1, hv, r⟩ := rx
        obtain ⟨m, us, e2, hu, r'⟩ := ry
        subst e1 e2
        have hv := k2 _ _ hv
        have r := r.mono k2
        refine ⟨l, m, vs, us, rfl, .inr ⟨SqT.of hv, SqT.of hu, ziW xs ys, _, G2, k1.trans k2, rg2, ⟨fun i H3 G3 k3 rg3 o3 hi => ?_, fun i H3 G3 v H4 k3 rg3 o3 hi y => ?_, fun i H3 G3 k3 rg3 o3 hi => ?_⟩, q⟩⟩
        · rw [ziW_length] at hi
          obtain ⟨v, h1, _⟩ := r.get (show xs[i]? = some (xs[i]'(by omega)) by simp [show i < xs.length by omega])
          obtain ⟨v', h2, _⟩ := r'.get (show ys[i]? = some (ys[i]'(by omega)) by simp [show i < ys.length by omega])
          exact ⟨vs, us, v, v', SqT.of (k3 _ _ hv), SqT.of (k3 _ _ hu), h1, h2⟩
        · obtain ⟨T, x, x', e1, hT, e2, y, y'⟩ := y
          subst e1 e2
          obtain ⟨w, h1, h2⟩ := r.back (y vs (SqT.of (k3 _ _ hv)))
          obtain ⟨w', h1', h2'⟩ := r'.back (y' us (SqT.of (k3 _ _ hu)))
          exact ⟨Keep.new hT, rg3.tup hT, _, ziW_get h1 h1', T, _, rfl, upd_same, .cons (h2.mono (k3.trans (Keep.new hT))) (.cons (h2'.mono (k3.trans (Keep.new hT))) RVs.nil)⟩
        · rw [ziW_length] at hi
          exact ⟨vs, us, SqT.of (k3 _ _ hv), SqT.of (k3 _ _ hu), by rw [← r.length, ← r'.length]; omega⟩
      | _ => exact q.elim
    | _ => exact q.elim⟩⟩
end
end AL
namespace AL
open PySem PySem.Spec L2
open PyProof.Rows hiding St

/-! ### data -/
mutual
/-- None, whole numbers, texts, tuples of these -/
def okW : W → Bool
  | .non => true
  | .bl _ => false
  | .int _ => true
  | .str x => PyData.strOk x
  | .ref _ => false
  | .tup ws => okWs ws
def okWs : List W → Bool
  | [] => true
  | w :: ws => okW w && okWs ws
end
mutual
def dpW : W → Nat
  | .non => 0
  | .bl _ => 0
  | .int _ => 0
  | .str _ => 0
  | .ref _ => 0
  | .tup ws => dpWs ws + 1
def dpWs : List W → Nat
  | [] => 0
  | w :: ws => max (dpW w) (dpWs ws)
end
mutual
def pdW : W → PyData
  | .non => .none
  | .bl b => .bool b
  | .int i => .int i
  | .str x => .str x
  | .ref _ => .none
  | .tup ws => .tuple (pdWs ws)
def pdWs : List W → List PyData
  | [] => []
  | w :: ws => pdW w :: pdWs ws
end
mutual
theorem pd_lay : ∀ w : W, okW w = true → (pdW w).canLay0 = true
  | .non, _ => rfl
  | .bl _, h => by simp [okW] at h
  | .int _, _ => rfl
  | .str x, h => by simpa [okW, pdW, PyData.canLay0] using h
  | .ref _, h => by simp [okW] at h
  | .tup ws, h => by
    rw [pdW, PyData.canLay0]
    exact pds_lay ws (by simpa [okW] using h)
theorem pds_lay : ∀ ws : List W, okWs ws = true → PyData.canLayAll0 (pdWs ws) = true
  | [], _ => rfl
  | w :: ws, h => by
    simp only [okWs, Bool.and_eq_true] at h
    rw [pdWs, PyData.canLayAll0, pd_lay w h.1, pds_lay ws h.2]; rfl
end
mutual
theorem pd_depth : ∀ w : W, (pdW w).depth = dpW w
  | .non => rfl
  | .bl _ => rfl
  | .int _ => rfl
  | .str _ => rfl
  | .ref _ => rfl
  | .tup ws => by rw [pdW, PyData.depth, dpW, pds_depth ws]
theorem pds_depth : ∀ ws : List W, PyData.depthAll (pdWs ws) = dpWs ws
  | [] => rfl
  | w :: ws => by rw [pdWs, PyData.depthAll, dpWs, pd_depth w, pds_depth ws]
end
mutual
theorem pd_eqv : ∀ a b : W, okW a = true → okW b = true → PyData.eqv (pdW a) (pdW b) = eqW a b
  | .non, .non, _, _ => rfl
  | .int a, .int b, _, _ => by simp [pdW, PyData.eqv, eqW, Bool.beq_eq_decide_eq]
  | .str a, .str b, _, _ => by simp [pdW, PyData.eqv, eqW, Bool.beq_eq_decide_eq]
  | .tup a, .tup b, ha, hb => by rw [pdW, pdW, PyData.eqv, eqW]; exact pds_eqv a b (by simpa [okW] using ha) (by simpa [okW] using hb)
  | .non, .int _, _, _ | .non, .str _, _, _ | .non, .tup _, _, _ => by simp [pdW, PyData.eqv, eqW]
  | .int _, .non, _, _ | .int _, .str _, _, _ | .int _, .tup _, _, _ => by simp [pdW, PyData.eqv, eqW]
  | .str _, .non, _, _ | .str _, .int _, _, _ | .str _, .tup _, _, _ => by simp [pdW, PyData.eqv, eqW]
  | .tup _, .non, _, _ | .tup _, .int _, _, _ | .tup _, .str _, _, _ => by simp [pdW, PyData.eqv, eqW]
  | .bl _, _, h, _ => by simp [okW] at h
  | .ref _, _, h, _ => by simp [okW] at h
  | .non, .bl _, _, h | .non, .ref _, _, h => by simp [okW] at h
  | .int _, .bl _, _, h | .int _, .ref _, _, h => by simp [okW] at h
  | .str _, .bl _, _, h | .str _, .ref _, _, h => by simp [okW] at h
  | .tup _, .bl _, _, h | .tup _, .ref _, _, h => by simp [okW] at h
theorem pds_eqv : ∀ a b : List W, okWs a = true → okWs b = true → PyData.eqvAll (pdWs a) (pdWs b) = eqWs a b
  | [], [], _, _ => rfl
  | a :: as, b :: bs, ha, hb => by
    simp only [okWs, Bool.and_eq_true] at ha hb
    rw [pdWs, pdWs, PyData.eqvAll, eqWs, pd_eqv a b ha.1 hb.1, pds_eqv as bs ha.2 hb.2]
  | [], _ :: _, _, _ => by simp [pdWs, PyData.eqvAll, eqWs]
  | _ :: _, [], _, _ => by simp [pdWs, PyData.eqvAll, eqWs]
end
mutual
/-- data with lists in it, as the heap has them -/
inductive DW (G : AH) : W → PyData → Prop
  | non : DW G .non .none
  | bl (b : Bool) : DW G (.bl b) (.bool b)
  | int (i : Int) : DW G (.int i) (.int i)
  | str (x : Str) : DW G (.str x) (.str x)
  | lst {a : Addr} {xs : List W} {ds : List PyData} : G a = some (.lst xs) → DWs G xs ds → DW G (.ref a) (.list ds)
  | tup {xs : List W} {ds : List PyData} : DWs G xs ds → DW G (.tup xs) (.tuple ds)
inductive DWs (G : AH) : List W → List PyData → Prop
  | nil : DWs G [] []
  | cons {v : W} {vs : List W} {d : PyData} {ds : List PyData} : DW G v d → DWs G vs ds → DWs G (v :: vs) (d :: ds)
end
mutual
theorem DW.low {c : Ct} {H : Hp} {G : AH} (g : RG c H G) : ∀ (d : PyData) (w : W) (v : V), DW G w d → RV H w v → Dp c.K H v d
  | .none, _, _, h, r => by cases h; cases (show _ = V.non from r); exact .non
  | .bool b, _, _, h, r => by cases h; cases (show _ = V.bl b from r); exact .bl b
  | .int i, _, _, h, r => by cases h; cases (show _ = V.int i from r); exact .int i
  | .str x, _, _, h, r => by cases h; cases (show _ = V.str x from r); exact .str x
  | .list ds, _, _, h, r => by
    cases h with
    | @lst a xs _ ha hs =>
      cases (show _ = V.ref a from r)
      obtain ⟨vs, hv, rr⟩ := g.lst ha
      exact .lst (SqL.of hv) (DWs.low g ds xs vs hs rr)
  | .tuple ds, _, _, h, r => by
    cases h with
    | tup hs =>
      obtain ⟨a, vs, e, hv, rr⟩ := r
      subst e
      exact .tup (SqT.of hv) (DWs.low g ds _ vs hs rr)
  | .dict _, _, _, h, _ => by cases h
theorem DWs.low {c : Ct} {H : Hp} {G : AH} (g : RG c H G) : ∀ (ds : List PyData) (ws : List W) (vs : List V), DWs G ws ds → RVs H ws vs → DpAll c.K H vs ds
  | [], _, _, h, r => by cases h; cases (show _ = ([] : List V) from r); exact .nil
  | d :: ds, _, _, h, r => by
    cases h with
    | cons h1 h2 =>
      obtain ⟨v, vs, e, r1, r2⟩ := r
      subst e
      exact .cons (DW.low g d _ v h1 r1) (DWs.low g ds _ vs h2 r2)
end
mutual
theorem DW.of {G : AH} : ∀ w : W, okW w = true → DW G w (pdW w)
  | .non, _ => .non
  | .bl _, h => by simp [okW] at h
  | .int i, _ => .int i
  | .str x, _ => .str x
  | .ref _, h => by simp [okW] at h
  | .tup ws, h => .tup (DWs.of ws (by simpa [okW] using h))
theorem DWs.of {G : AH} : ∀ ws : List W, okWs ws = true → DWs G ws (pdWs ws)
  | [], _ => .nil
  | w :: ws, h => by
    simp only [okWs, Bool.and_eq_true] at h
    exact .cons (DW.of w h.1) (DWs.of ws h.2)
end
/-- == : scalars, tuples of data, else as data -/
def fEqB (neg : Bool) : WR := fun x y G K => match x, y with
  | .int i, .int j => K (.bl (if neg then !decide (i = j) else decide (i = j))) G
  | .str i, .str j => K (.bl (if neg then !decide (i = j) else decide (i = j))) G
  | .bl i, .bl j => K (.bl (if neg then !decide (i = j) else decide (i = j))) G
  | .tup i, .tup j => (okWs i && Nat.ble (dpWs i) 60 && (okWs j && Nat.ble (dpWs j) 60)) = true ∧ K (.bl (if neg then !eqWs i j else eqWs i j)) G
  | .non, .int _ | .int _, .non | .non, .str _ | .str _, .non | .int _, .str _ | .str _, .int _ => K (.bl (if neg then true else false)) G
  | x, y => ∃ d e, DW G x d ∧ DW G y e ∧ SeqAt.shaped d = true ∧ SeqAt.shaped e = true ∧ K (.bl (if neg then !PyData.eqv d e else PyData.eqv d e)) G
def fEq : WR := fEqB false
def fNe : WR := fEqB true
theorem shaped_tup {xs : List W} (h : (okWs xs && Nat.ble (dpWs xs) 60) = true) : SeqAt.shaped (pdW (.tup xs)) = true := by
  rw [Bool.and_eq_true] at h
  unfold SeqAt.shaped
  rw [pd_lay (.tup xs) (by simpa [okW] using h.1), Bool.true_and]
  refine decide_eq_true ?_
  rw [pd_depth, dpW]
  have := Nat.le_of_ble_eq_true h.2
  omega
def rEqU (K : PySem.W.Frag) : R2 := fun x y H Q => rEq x y H Q ∨ rEqD K x y H Q
def rNeU (K : PySem.W.Frag) : R2 := fun x y H Q => rNe x y H Q ∨ rNeD K x y H Q
theorem rr_eq {c : Ct} : RR c (rEqU c.K) fEq := by
  intro x y u v H G K Q rx ry g h q
  have deep : (∃ d e, DW G x d ∧ DW G y e ∧ SeqAt.shaped d = true ∧ SeqAt.shaped e = true ∧ K (.bl (PyData.eqv d e)) G) → rEqU c.K u v H Q := fun ⟨d, e, hd, he, sd, se, k⟩ =>
    .inr ⟨d, e, DW.low g d x u hd rx, DW.low g e y v he ry, sd, se, q _ _ (.stay (w := .bl _) rfl g k)⟩
  cases x with
  | int i => cases y with
    | int j => cases (show u = .int i from rx); cases (show v = .int j from ry); exact .inl ⟨rfl, q _ _ (.stay (w := .bl (decide (i = j))) (by show V.bl _ = V.bl _; simp) g h)⟩
    | non => cases (show u = .int i from rx); cases (show v = .non from ry); exact .inl ⟨rfl, q _ _ (.stay (w := .bl false) rfl g h)⟩
    | str j => cases (show u = .int i from rx); cases (show v = .str j from ry); exact .inl ⟨rfl, q _ _ (.stay (w := .bl false) rfl g h)⟩
    | _ => exact deep h
  | str i => cases y with
    | str j => cases (show u = .str i from rx); cases (show v = .str j from ry); exact .inl ⟨rfl, q _ _ (.stay (w := .bl (decide (i = j))) (by show V.bl _ = V.bl _; simp) g h)⟩
    | non => cases (show u = .str i from rx); cases (show v = .non from ry); exact .inl ⟨rfl, q _ _ (.stay (w := .bl false) rfl g h)⟩
    | int j => cases (show u = .str i from rx); cases (show v = .int j from ry); exact .inl ⟨rfl, q _ _ (.stay (w := .bl false) rfl g h)⟩
    | _ => exact deep h
  | bl i => cases y with
    | bl j => cases (show u = .bl i from rx); cases (show v = .bl j from ry); exact .inl ⟨rfl, q _ _ (.stay (w := .bl (decide (i = j))) (by show V.bl _ = V.bl _; simp) g h)⟩
    | _ => exact deep h
  | non => cases y with
    | int j => cases (show u = .non from rx); cases (show v = .int j from ry); exact .inl ⟨rfl, q _ _ (.stay (w := .bl false) rfl g h)⟩
    | str j => cases (show u = .non from rx); cases (show v = .str j from ry); exact .inl ⟨rfl, q _ _ (.stay (w := .bl false) rfl g h)⟩
    | _ => exact deep h
  | tup xs => cases y with
    | tup ys =>
      obtain ⟨hh, k⟩ := h
      rw [Bool.and_eq_true] at hh
      have o1 := (Bool.and_eq_true_iff.mp hh.1).1
      have o2 := (Bool.and_eq_true_iff.mp hh.2).1
      refine deep ⟨_, _, DW.of (.tup xs) (by simpa [okW] using o1), DW.of (.tup ys) (by simpa [okW] using o2), shaped_tup hh.1, shaped_tup hh.2, ?_⟩
      rw [pd_eqv (.tup xs) (.tup ys) (by simpa [okW] using o1) (by simpa [okW] using o2), eqW]
      exact k
    | _ => exact deep h
  | ref a => exact deep (by cases y <;> exact h)
theorem rr_ne {c : Ct} : RR c (rNeU c.K) fNe := by
  intro x y u v H G K Q rx ry g h q
  have deep : (∃ d e, DW G x d ∧ DW G y e ∧ SeqAt.shaped d = true ∧ SeqAt.shaped e = true ∧ K (.bl (!PyData.eqv d e)) G) → rNeU c.K u v H Q := fun ⟨d, e, hd, he, sd, se, k⟩ =>
    .inr ⟨d, e, DW.low g d x u hd rx, DW.low g e y v he ry, sd, se, q _ _ (.stay (w := .bl _) rfl g k)⟩
  cases x with
  | int i => cases y with
    | int j => cases (show u = .int i from rx); cases (show v = .int j from ry); exact .inl ⟨rfl, q _ _ (.stay (w := .bl (!decide (i = j))) (by show V.bl _ = V.bl _; simp) g h)⟩
    | non => cases (show u = .int i from rx); cases (show v = .non from ry); exact .inl ⟨rfl, q _ _ (.stay (w := .bl true) rfl g h)⟩
    | str j => cases (show u = .int i from rx); cases (show v = .str j from ry); exact .inl ⟨rfl, q _ _ (.stay (w := .bl true) rfl g h)⟩
    | _ => exact deep h
  | str i => cases y with
    | str j => cases (show u = .str i from rx); cases (show v = .str j from ry); exact .inl ⟨rfl, q _ _ (.stay (w := .bl (!decide (i = j))) (by show V.bl _ = V.bl _; simp) g h)⟩
    | non => cases (show u = .str i from rx); cases (show v = .non from ry); exact .inl ⟨rfl, q _ _ (.stay (w := .bl true) rfl g h)⟩
    | int j => cases (show u = .str i from rx); cases (show v = .int j from ry); exact .inl ⟨rfl, q _ _ (.stay (w := .bl true) rfl g h)⟩
    | _ => exact deep h
  | bl i => cases y with
    | bl j => cases (show u = .bl i from rx); cases (show v = .bl j from ry); exact .inl ⟨rfl, q _ _ (.stay (w := .bl (!decide (i = j))) (by show V.bl _ = V.bl _; simp) g h)⟩
    | _ => exact deep h
  | non => cases y with
    | int j => cases (show u = .non from rx); cases (show v = .int j from ry); exact .inl ⟨rfl, q _ _ (.stay (w := .bl true) rfl g h)⟩
    | str j => cases (show u = .non from rx); cases (show v = .str j from ry); exact .inl ⟨rfl, q _ _ (.stay (w := .bl true) rfl g h)⟩
    | _ => exact deep h
  | tup xs => cases y with
    | tup ys =>
      obtain ⟨hh, k⟩ := h
      rw [Bool.and_eq_true] at hh
      have o1 := (Bool.and_eq_true_iff.mp hh.1).1
      have o2 := (Bool.and_eq_true_iff.mp hh.2).1
      refine deep ⟨_, _, DW.of (.tup xs) (by simpa [okW] using o1), DW.of (.tup ys) (by simpa [okW] using o2), shaped_tup hh.1, shaped_tup hh.2, ?_⟩
      rw [pd_eqv (.tup xs) (.tup ys) (by simpa [okW] using o1) (by simpa [okW] using o2), eqW]
      exact k
    | _ => exact deep h
  | ref a => exact deep (by cases y <;> exact h)
section
variable {X : Cx} {a b e : Expr} {pos : Pos} {ρ : AS} {G : AH} {K : W → AH → Prop} {KB : Bool → AH → Prop}
theorem q_eq (hu : X.A.units + 64 < cLine) (h : EQ X a ρ G fun x G1 => EQ X b ρ G1 fun y G2 => fEq x y G2 K) : EQ X (.Compare a [.Eq] [b] pos) ρ G K := q_cmp (op_eq.or (op_eqD hu)) rr_eq (nomark _) h
theorem q_ne (hu : X.A.units + 64 < cLine) (h : EQ X a ρ G fun x G1 => EQ X b ρ G1 fun y G2 => fNe x y G2 K) : EQ X (.Compare a [.NotEq] [b] pos) ρ G K := q_cmp (op_ne.or (op_neD hu)) rr_ne (nomark _) h
theorem b_eq (hu : X.A.units + 64 < cLine) (h : EQ X a ρ G fun x G1 => EQ X b ρ G1 fun y G2 => fEq x y G2 (tst KB)) : BQ X (.Compare a [.Eq] [b] pos) ρ G KB := b_cmp (op_eq.or (op_eqD hu)) rr_eq (nomark _) h
theorem b_ne (hu : X.A.units + 64 < cLine) (h : EQ X a ρ G fun x G1 => EQ X b ρ G1 fun y G2 => fNe x y G2 (tst KB)) : BQ X (.Compare a [.NotEq] [b] pos) ρ G KB := b_cmp (op_ne.or (op_neD hu)) rr_ne (nomark _) h
def rIsN : R2 := fun x y H Q => y = .non ∧ Q (.bl (decide (x = .non))) H
def rNotN : R2 := fun x y H Q => y = .non ∧ Q (.bl (!decide (x = .non))) H
theorem op_isN1 : OpR X (compareOp .Is) rIsN := op_isN
theorem op_notN1 : OpR X (compareOp .IsNot) rNotN := op_notN
/-- is None, is True -/
def isN : W → Bool
  | .non => true
  | _ => false
def fIsB (neg : Bool) : WR := fun x y G K => match y with
  | .non => K (.bl (if neg then !isN x else isN x)) G
  | .bl j => (match x with
    | .bl i => K (.bl (if neg then !decide (i = j) else decide (i = j))) G
    | _ => False)
  | _ => False
theorem isN_low {H : Hp} {x : W} {u : V} (r : RV H x u) : decide (u = .non) = isN x := by
  cases x with
  | non => cases (show u = .non from r); rfl
  | bl b => cases (show u = .bl b from r); rfl
  | int b => cases (show u = .int b from r); rfl
  | str b => cases (show u = .str b from r); rfl
  | ref b => cases (show u = .ref b from r); rfl
  | tup b => obtain ⟨a, vs, e, _⟩ := r; subst e; rfl
theorem rr_is {c : Ct} : RR c (fun x y H Q => rIsN x y H Q ∨ rIsB x y H Q) (fIsB false) := by
  intro x y u v H G K Q rx ry g h q
  cases y with
  | non => cases (show v = .non from ry); exact .inl ⟨rfl, q _ _ (.stay (w := .bl (isN x)) (by rw [isN_low rx]; rfl) g h)⟩
  | bl j =>
    cases x with
    | bl i => cases (show u = .bl i from rx); cases (show v = .bl j from ry); exact .inr ⟨i, j, rfl, rfl, q _ _ (.stay (w := .bl (decide (i = j))) rfl g h)⟩
    | _ => exact h.elim
  | _ => exact h.elim
theorem rr_isn {c : Ct} : RR c (fun x y H Q => rNotN x y H Q ∨ rNotB x y H Q) (fIsB true) := by
  intro x y u v H G K Q rx ry g h q
  cases y with
  | non => cases (show v = .non from ry); exact .inl ⟨rfl, q _ _ (.stay (w := .bl (!isN x)) (by rw [isN_low rx]; rfl) g h)⟩
  | bl j =>
    cases x with
    | bl i => cases (show u = .bl i from rx); cases (show v = .bl j from ry); exact .inr ⟨i, j, rfl, rfl, q _ _ (.stay (w := .bl (!decide (i = j))) rfl g h)⟩
    | _ => exact h.elim
  | _ => exact h.elim
theorem q_is (h : EQ X a ρ G fun x G1 => EQ X b ρ G1 fun y G2 => fIsB false x y G2 K) : EQ X (.Compare a [.Is] [b] pos) ρ G K := q_cmp (op_isN1.or op_isBl) rr_is (nomark _) h
theorem q_isn (h : EQ X a ρ G fun x G1 => EQ X b ρ G1 fun y G2 => fIsB true x y G2 K) : EQ X (.Compare a [.IsNot] [b] pos) ρ G K := q_cmp (op_notN1.or op_notBl) rr_isn (nomark _) h
theorem b_is (h : EQ X a ρ G fun x G1 => EQ X b ρ G1 fun y G2 => fIsB false x y G2 (tst KB)) : BQ X (.Compare a [.Is] [b] pos) ρ G KB := b_cmp (op_isN1.or op_isBl) rr_is (nomark _) h
theorem b_isn (h : EQ X a ρ G fun x G1 => EQ X b ρ G1 fun y G2 => fIsB true x y G2 (tst KB)) : BQ X (.Compare a [.IsNot] [b] pos) ρ G KB := b_cmp (op_notN1.or op_notBl) rr_isn (nomark _) h
/-- a op1 b op2 c, on whole numbers -/
theorem b_chain {c : Expr} {op op' : CmpOp} {r r' : R2} {R R' : WR} (ho : OpR X (compareOp op) r) (ho' : OpR X (compareOp op') r') (rr : RR (cc X) r R) (rr' : RR (cc X) r' R') (hm : lastMarks [op, op'] [b, c] = false)
    (h : EQ X a ρ G fun x G1 => EQ X b ρ G1 fun y G2 => R x y G2 (tst fun k G3 => ifB k (EQ X c ρ G3 fun z G4 => R' y z G4 (tst KB)) (KB false G3))) : BQ X (.Compare a [op, op'] [b, c] pos) ρ G KB :=
  BQ.of (pt_chain ho ho' pe_E pe_E pe_E hm) fun σ H rs rg => ⟨ρ, G, _, h, rs, rg, fun u H1 ⟨x, G1, k1, rx, rg1, hb⟩ => ⟨ρ, G1, _, hb, rs.mono k1, rg1, fun v H2 ⟨y, G2, k2, ry, rg2, hr⟩ =>
    rr x y u v H2 G2 _ _ (rx.mono k2) ry rg2 hr fun z H' q => by
      obtain ⟨k, e, G3, k3, rg3, q⟩ := tst_of q
      refine ⟨k, e, ?_⟩
      cases k with
      | false => exact ⟨false, rfl, G3, (k1.trans k2).trans k3, rg3, q.h⟩
      | true => exact ⟨ρ, G3, _, q.h, rs.mono ((k1.trans k2).trans k3), rg3, fun w H4 ⟨z', G4, k4, rz, rg4, q4⟩ => rr' y z' v w H4 G4 _ _ (ry.mono (k3.trans k4)) rz rg4 q4 fun z2 H5 q5 => tst_of (q5.pre (((k1.trans k2).trans k3).trans k4))⟩⟩⟩
theorem b_le_lt {c : Expr} (h : EQ X a ρ G fun x G1 => EQ X b ρ G1 fun y G2 => fLe x y G2 (tst fun k G3 => ifB k (EQ X c ρ G3 fun z G4 => fLt y z G4 (tst KB)) (KB false G3))) (hm : lastMarks [.LtE, .Lt] [b, c] = false := by with_unfolding_all rfl) :
    BQ X (.Compare a [.LtE, .Lt] [b, c] pos) ρ G KB := b_chain op_le op_lt rr_IB rr_IB hm h
theorem b_le_le {c : Expr} (h : EQ X a ρ G fun x G1 => EQ X b ρ G1 fun y G2 => fLe x y G2 (tst fun k G3 => ifB k (EQ X c ρ G3 fun z G4 => fLe y z G4 (tst KB)) (KB false G3))) (hm : lastMarks [.LtE, .LtE] [b, c] = false := by with_unfolding_all rfl) :
    BQ X (.Compare a [.LtE, .LtE] [b, c] pos) ρ G KB := b_chain op_le op_le rr_IB rr_IB hm h

/-! ### x in xs -/
def fInD (neg : Bool) : WR := fun x y G K => ∃ d ds, DW G x d ∧ DW G y (.list ds) ∧ SeqAt.shaped d = true ∧ SeqAt.shaped (.list ds) = true ∧ K (.bl (if neg then !ds.any fun z => PyData.eqv z d else ds.any fun z => PyData.eqv z d)) G
theorem rr_inD {c : Ct} : RR c (rInD c.K) (fInD false) := by
  intro x y u v H G K Q rx ry g ⟨d, ds, h1, h2, s1, s2, k⟩ q
  exact ⟨d, ds, DW.low g d x u h1 rx, DW.low g _ y v h2 ry, s1, s2, q _ _ (.stay (w := .bl _) rfl g k)⟩
theorem rr_ninD {c : Ct} : RR c (rNotInD c.K) (fInD true) := by
  intro x y u v H G K Q rx ry g ⟨d, ds, h1, h2, s1, s2, k⟩ q
  exact ⟨d, ds, DW.low g d x u h1 rx, DW.low g _ y v h2 ry, s1, s2, q _ _ (.stay (w := .bl _) rfl g k)⟩
theorem q_in (hu : X.A.units + 65 < cLine) (h : EQ X a ρ G fun x G1 => EQ X b ρ G1 fun y G2 => fInD false x y G2 K) (hm : behindInMarks .In b = false := by rfl) : EQ X (.Compare a [.In] [b] pos) ρ G K := q_cmp (op_inD hu) rr_inD hm h
theorem q_nin (hu : X.A.units + 65 < cLine) (h : EQ X a ρ G fun x G1 => EQ X b ρ G1 fun y G2 => fInD true x y G2 K) (hm : behindInMarks .NotIn b = false := by rfl) : EQ X (.Compare a [.NotIn] [b] pos) ρ G K := q_cmp (op_notInD hu) rr_ninD hm h
theorem b_in (hu : X.A.units + 65 < cLine) (h : EQ X a ρ G fun x G1 => EQ X b ρ G1 fun y G2 => fInD false x y G2 (tst KB)) (hm : behindInMarks .In b = false := by rfl) : BQ X (.Compare a [.In] [b] pos) ρ G KB := b_cmp (op_inD hu) rr_inD hm h
theorem b_nin (hu : X.A.units + 65 < cLine) (h : EQ X a ρ G fun x G1 => EQ X b ρ G1 fun y G2 => fInD true x y G2 (tst KB)) (hm : behindInMarks .NotIn b = false := by rfl) : BQ X (.Compare a [.NotIn] [b] pos) ρ G KB := b_cmp (op_notInD hu) rr_ninD hm h

/-! ### items, slices -/
def onO {α : Type} (o : Option α) (k : α → Prop) : Prop := match o with
  | some v => k v
  | none => False
def fIx : WR := fun x y G K => match x, y with
  | .tup xs, .int i => onO (atI xs i) fun v => K v G
  | .ref a, .int i => ∃ xs v, G a = some (.lst xs) ∧ atI xs i = some v ∧ K v G
  | .str z, .int i => z.length ≤ sizeLine ∧ ∃ c, atI z.cps.toList i = some c ∧ K (.str ⟨#[c]⟩) G
  | _, _ => False
theorem RVs.atI {H : Hp} {ws : List W} {vs : List V} {i : Int} {w : W} (r : RVs H ws vs) (h : atI ws i = some w) : ∃ v, L2.atI vs i = some v ∧ RV H w v := by
  unfold L2.atI at h ⊢
  rw [← r.length]
  cases e : ixN ws.length i with
  | none => rw [e] at h; cases h
  | some j =>
    rw [e] at h
    obtain ⟨v, h1, h2⟩ := r.get (show ws[j]? = some w from h)
    exact ⟨v, h1, h2⟩
theorem rr_ix {c : Ct} : RR c (rIx c.K) fIx := by
  intro x y u v H G K Q rx ry g h q
  cases y with
  | int i =>
    cases (show v = .int i from ry)
    cases x with
    | tup xs =>
      obtain ⟨a, vs, e, hv, r⟩ := rx
      subst e
      have h : onO (atI xs i) fun v => K v G := h
      cases e : atI xs i with
      | none => rw [e] at h; exact h.elim
      | some w =>
        rw [e] at h
        obtain ⟨v, h1, h2⟩ := r.atI e
        exact .inr (.inl ⟨a, vs, i, v, rfl, rfl, SqT.of hv, h1, q _ _ (.stay h2 g h)⟩)
    | ref a =>
      cases (show u = .ref a from rx)
      obtain ⟨xs, w, ha, e, k⟩ := h
      obtain ⟨vs, hv, r⟩ := g.lst ha
      obtain ⟨v, h1, h2⟩ := r.atI e
      exact .inl ⟨a, vs, i, v, rfl, rfl, SqL.of hv, h1, q _ _ (.stay h2 g k)⟩
    | str z =>
      cases (show u = .str z from rx)
      obtain ⟨hz, c, e, k⟩ := h
      exact .inr (.inr ⟨z, i, c, rfl, rfl, hz, e, q _ _ (.stay (w := .str _) rfl g k)⟩)
    | _ => exact h.elim
  | _ => cases x <;> exact h.elim
theorem q_ix (h : EQ X a ρ G fun x G1 => EQ X b ρ G1 fun y G2 => fIx x y G2 K) (hs : PlainIx b := by exact fun _ _ => rfl) : EQ X (.Subscript a b pos) ρ G K :=
  EQ.of (pe_ix ix_seq pe_E pe_E hs) fun σ H rs rg => ⟨ρ, G, _, h, rs, rg, fun u H1 ⟨x, G1, k1, rx, rg1, hb⟩ => ⟨ρ, G1, _, hb, rs.mono k1, rg1, fun v H2 ⟨y, G2, k2, ry, rg2, hr⟩ =>
    rr_ix x y u v H2 G2 K _ (rx.mono k2) ry rg2 hr fun z H' q => q.pre (k1.trans k2)⟩⟩
def cutW (xs : List W) (lo hi : Option Int) : List W := (xs.drop (HT.sIx xs.length 0 lo)).take (HT.sIx xs.length xs.length hi - HT.sIx xs.length 0 lo)
theorem RVs.cut {H : Hp} {ws : List W} {vs : List V} (r : RVs H ws vs) (lo hi : Option Int) : RVs H (cutW ws lo hi) (cutV vs lo hi) := by
  unfold cutW cutV
  rw [← r.length]
  exact (r.drop _).take _
/-- a part of a slice -/
def CO (c : Ct) (H : Hp) (K : Option Int → AH → Prop) : Option Int → Hp → Prop := fun o H' => ∃ G', Keep H H' ∧ RG c H' G' ∧ K o G'
structure OQ (X : Cx) (e : Option Expr) (ρ : AS) (G : AH) (K : Option Int → AH → Prop) : Prop where
  run : ∀ (pins : List (Addr × Obj)) (s : Shared) (σ : St) (H : Hp), Inv X pins σ H s → RS H σ ρ → RG (cc X) H G →
    wpAny (model X.prog X.w) X.A (evalPart e X.env) (fun v s' => ∃ o H', Inv X pins σ H' s' ∧ IsPart v o ∧ CO (cc X) H K o H') X.xe s
def tO (X : Cx) (e : Option Expr) : TO := fun σ H Q => ∃ ρ G K, OQ X e ρ G K ∧ RS H σ ρ ∧ RG (cc X) H G ∧ ∀ o H', CO (cc X) H K o H' → Q o H'
theorem po_O {e : Option Expr} : PO X e (tO X e) := ⟨fun pins s σ H Q I ⟨ρ, G, K, h, rs, rg, k⟩ => thn (h.run pins s σ H I rs rg) fun u s' ⟨v, H', I', r, q⟩ => ⟨v, H', I', r, k v H' q⟩⟩
theorem OQ.of {e : Option Expr} {t : TO} {K : Option Int → AH → Prop} (h : PO X e t) (k : ∀ σ H, RS H σ ρ → RG (cc X) H G → t σ H (CO (cc X) H K)) : OQ X e ρ G K := ⟨fun pins s σ H I rs rg => h.run pins s σ H _ I (k σ H rs rg)⟩
theorem o_non {K : Option Int → AH → Prop} (k : K none G) : OQ X none ρ G K := OQ.of po_none fun σ H rs rg => ⟨G, Keep.refl, rg, k⟩
theorem o_some {K : Option Int → AH → Prop} (h : EQ X e ρ G fun w G1 => onI w fun i => K (some i) G1) : OQ X (some e) ρ G K :=
  OQ.of (po_some pe_E) fun σ H rs rg => ⟨ρ, G, _, h, rs, rg, fun u H1 ⟨x, G1, k1, rx, rg1, h⟩ => by
    cases x with
    | int i => exact ⟨i, rx, G1, k1, rg1, h⟩
    | _ => exact h.elim⟩
def fSl (x : W) (lo hi : Option Int) (G : AH) (K : W → AH → Prop) : Prop := match x with
  | .tup xs => K (.tup (cutW xs lo hi)) G
  | .ref a => ∃ xs, G a = some (.lst xs) ∧ ∀ p, G p = none → K (.ref p) (aup G p (.lst (cutW xs lo hi)))
  | .str z => z.length ≤ sizeLine ∧ K (.str (cutS z lo hi)) G
  | _ => False
def rSlU (K : PySem.W.Frag) : V → Option Int → Option Int → Hp → VK → Prop := fun x lo hi H Q => rSlA K x lo hi H Q ∨ rSlL K x lo hi H Q ∨ rSlS x lo hi H Q
theorem rr_sl {c : Ct} (x : W) (u : V) (lo hi : Option Int) (H : Hp) (G : AH) (K : W → AH → Prop) (Q : VK) (rx : RV H x u) (g : RG c H G) (h : fSl x lo hi G K) (q : ∀ z H', CW c H K z H' → Q z H') : rSlU c.K u lo hi H Q := by
  cases x with
  | tup xs =>
    obtain ⟨a, vs, e, hv, r⟩ := rx
    subst e
    refine .inl ⟨a, vs, rfl, SqT.of hv, fun hw => ?_, fun hw p hp => ?_⟩
    · have e : cutW xs lo hi = xs := by
        rw [← r.length] at hw
        unfold cutW
        rw [hw.1, hw.2]
        simp
      have h : K (.tup (cutW xs lo hi)) G := h
      rw [e] at h
      exact q _ _ (.stay (w := .tup xs) ⟨a, vs, rfl, hv, r⟩ g h)
    · exact q _ _ ⟨.tup (cutW xs lo hi), G, Keep.new hp, ⟨p, _, rfl, upd_same, (r.cut lo hi).mono (Keep.new hp)⟩, g.tup hp, h⟩
  | ref a =>
    cases (show u = .ref a from rx)
    obtain ⟨xs, ha, k⟩ := h
    obtain ⟨vs, hv, r⟩ := g.lst ha
    exact .inr (.inl ⟨a, vs, rfl, SqL.of hv, fun p hp => q _ _ ⟨.ref p, _, Keep.new hp, rfl, g.newL hp (r.cut lo hi), k p (g.free hp)⟩⟩)
  | str z =>
    cases (show u = .str z from rx)
    exact .inr (.inr ⟨z, rfl, h.1, q _ _ (.stay (w := .str _) rfl g h.2)⟩)
  | _ => exact h.elim
theorem q_sl {lo hi : Option Expr} {p2 : Pos} (h : EQ X a ρ G fun x G1 => OQ X lo ρ G1 fun l G2 => OQ X hi ρ G2 fun u G3 => fSl x l u G3 K) : EQ X (.Subscript a (.Slice lo hi none p2) pos) ρ G K :=
  EQ.of (pe_slice (sl_tupA.or (sl_list.or sl_str)) pe_E po_O po_O) fun σ H rs rg => ⟨ρ, G, _, h, rs, rg, fun u H1 ⟨x, G1, k1, rx, rg1, hb⟩ => ⟨ρ, G1, _, hb, rs.mono k1, rg1, fun l H2 ⟨G2, k2, rg2, hr⟩ => ⟨ρ, G2, _, hr, rs.mono (k1.trans k2), rg2, fun r H3 ⟨G3, k3, rg3, hq⟩ =>
    rr_sl x u l r H3 G3 K _ (rx.mono (k2.trans k3)) rg3 hq fun z H' q => q.pre ((k1.trans k2).trans k3)⟩⟩⟩
/-- a slice of a list that is read alone (the script) -/
def fSlF (x : W) (lo hi : Option Int) (G : AH) (K : W → AH → Prop) : Prop := match x with
  | .ref a => ∃ xs, G a = some (.fro xs) ∧ ∀ p, G p = none → K (.ref p) (aup G p (.lst (cutW xs lo hi)))
  | _ => False
end
end AL
namespace AL
open PySem PySem.Spec L2
open PyProof.Rows hiding St

/-! ### dicts whose keys are tuples -/
section
variable {κ : Type} [DecidableEq κ]
def lk (kws : List (κ × W)) (k : κ) : Option W := (kws.find? fun kv => decide (kv.1 = k)).map (·.2)
def pk (kws : List (κ × W)) (k : κ) (v : W) : List (κ × W) := if (lk kws k).isSome = true then kws.map (fun kv => if kv.1 = k then (kv.1, v) else kv) else kws ++ [(k, v)]
theorem lk_nil {k : κ} : lk ([] : List (κ × W)) k = none := rfl
theorem lk_cons {p : κ × W} {r : List (κ × W)} {k : κ} : lk (p :: r) k = if p.1 = k then some p.2 else lk r k := by
  unfold lk
  by_cases e : p.1 = k
  · simp [List.find?_cons, e]
  · simp [List.find?_cons, e]
theorem lk_app {r : List (κ × W)} {k j : κ} {v : W} : lk (r ++ [(j, v)]) k = (lk r k).or (if j = k then some v else none) := by
  induction r with
  | nil => rw [List.nil_append, lk_cons]; rfl
  | cons p r ih =>
    rw [List.cons_append, lk_cons, lk_cons, ih]
    by_cases e : p.1 = k
    · rw [if_pos e, if_pos e]; rfl
    · rw [if_neg e, if_neg e]
theorem lk_map {r : List (κ × W)} {k j : κ} {v : W} : lk (r.map fun kv => if kv.1 = k then (kv.1, v) else kv) j = if j = k then (lk r k).map fun _ => v else lk r j := by
  induction r with
  | nil => simp [lk]
  | cons p r ih =>
    rw [List.map_cons, lk_cons, ih, lk_cons, lk_cons]
    by_cases e : p.1 = k
    · by_cases q : j = k
      · simp [e, q]
      · simp [e, q, Ne.symm q]
    · by_cases q : j = k
      · subst q; simp [e]
      · simp [e, q]
theorem lk_pk (r : List (κ × W)) (k j : κ) (v : W) : lk (pk r k v) j = if j = k then some v else lk r j := by
  unfold pk
  by_cases h : (lk r k).isSome = true
  · rw [if_pos h, lk_map]
    by_cases q : j = k
    · rw [if_pos q, if_pos q]
      obtain ⟨x, hx⟩ := Option.isSome_iff_exists.mp h
      rw [hx]; rfl
    · rw [if_neg q, if_neg q]
  · rw [if_neg h, lk_app]
    have e : lk r k = none := by simpa using h
    by_cases q : j = k
    · subst q; rw [e]; simp
    · rw [if_neg (Ne.symm q), if_neg q]; simp
theorem pk_len (r : List (κ × W)) (k : κ) (v : W) : (pk r k v).length ≤ r.length + 1 := by
  unfold pk
  split
  · rw [List.length_map]; omega
  · rw [List.length_append]; simp
theorem pk_new {r : List (κ × W)} {k : κ} (v : W) (h : lk r k = none) : pk r k v = r ++ [(k, v)] := by
  unfold pk
  rw [h]
  exact if_neg (by simp)
end

/-- the kept entries -/
def RawE (es : List (NestedKey × Addr × V)) (xs : List (NestedKey × Addr × Value)) : Prop := Paired (fun (p : NestedKey × Addr × V) (q : NestedKey × Addr × Value) => p.1 = q.1 ∧ p.2.1 = q.2.1 ∧ RelV p.2.2 q.2.2) es xs
def stE (es : List (NestedKey × Addr × V)) (k : NestedKey) (b : Addr) (v : V) : List (NestedKey × Addr × V) :=
  if (es.any fun x => decide (x.1 = k)) = true then es.map (fun x => if x.1 = k then (x.1, x.2.1, v) else x) else es ++ [(k, b, v)]
theorem RawE.any {es : List (NestedKey × Addr × V)} {xs : List (NestedKey × Addr × Value)} (r : RawE es xs) (k : NestedKey) : (es.any fun x => decide (x.1 = k)) = (atKey xs k).isSome := by
  unfold RawE at r
  induction r with
  | nil => rfl
  | @cons p q ps qs h t ih =>
    rw [List.any_cons, ih]
    unfold atKey
    rw [List.find?_cons, h.1]
    by_cases e : q.1 = k
    · simp [e]
    · simp [e]
theorem RawE.store {es : List (NestedKey × Addr × V)} {xs : List (NestedKey × Addr × Value)} (r : RawE es xs) (k : NestedKey) (b : Addr) {v : V} {u : Value} (rv : RelV v u) : RawE (stE es k b v) (storedH xs k b u) := by
  unfold stE storedH
  rw [r.any k]
  split
  · have all : ∀ {ps : List (NestedKey × Addr × V)} {qs : List (NestedKey × Addr × Value)}, RawE ps qs → RawE (ps.map fun x => if x.1 = k then (x.1, x.2.1, v) else x) (qs.map (putAt k u)) := by
      intro ps qs r
      unfold RawE at r
      induction r with
      | nil => exact .nil
      | @cons p q ps qs h t ih =>
        rw [List.map_cons, List.map_cons]
        refine .cons ?_ ih
        unfold putAt
        by_cases e : p.1 = k
        · rw [if_pos e, if_pos (h.1.symm.trans e)]; exact ⟨h.1, h.2.1, rv⟩
        · rw [if_neg e, if_neg (fun z => e (h.1.trans z))]; exact h
    exact all r
  · unfold RawE at r ⊢
    have app : ∀ {l1 l1' : List (NestedKey × Addr × V)} {l2 l2' : List (NestedKey × Addr × Value)}, RawE l1 l2 → RawE l1' l2' → RawE (l1 ++ l1') (l2 ++ l2') := by
      intro l1 l1' l2 l2' h1 h2
      unfold RawE at h1
      induction h1 with
      | nil => exact h2
      | cons h t ih => exact .cons h ih
    exact app r (.cons ⟨rfl, rfl, rv⟩ .nil)
theorem NWV.any {H : Hp} {kws : List (W × W)} {es : List (NestedKey × Addr × V)} (r : NWV H kws es) {k : W} (hk : kbl k = true) : (es.any fun x => decide (x.1 = nk k)) = (lk kws k).isSome := by
  unfold NWV at r
  induction r with
  | nil => rfl
  | @cons p q ps qs h t ih =>
    rw [List.any_cons, ih, lk_cons, h.1]
    by_cases e : p.1 = k
    · subst e; simp
    · rw [if_neg e]
      have : nk p.1 ≠ nk k := fun z => e (nk_inj _ _ h.2.1 hk z)
      simp [this]
theorem NWV.store {H : Hp} {kws : List (W × W)} {es : List (NestedKey × Addr × V)} (r : NWV H kws es) {k : W} {b : Addr} {w : W} {v : V} (hk : kbl k = true) (hd : (nk k).depth ≤ 8) (rk : RV H k (.ref b)) (rw' : RV H w v) : NWV H (pk kws k w) (stE es (nk k) b v) := by
  have any := r.any hk
  unfold pk stE
  rw [any]
  split
  · clear any
    unfold NWV at r ⊢
    induction r with
    | nil => exact .nil
    | @cons p q ps qs h t ih =>
      rename_i hh
      rw [List.map_cons, List.map_cons]
      refine .cons ?_ ?_
      · by_cases e : p.1 = k
        · rw [if_pos e, if_pos (by rw [h.1, e])]; exact ⟨h.1, h.2.1, h.2.2.1, h.2.2.2.1, rw'⟩
        · rw [if_neg e, if_neg (fun z => e (nk_inj _ _ h.2.1 hk (h.1.symm.trans z)))]; exact h
      · have all : ∀ {ps : List (W × W)} {qs : List (NestedKey × Addr × V)}, NWV H ps qs → NWV H (ps.map fun kv => if kv.1 = k then (kv.1, w) else kv) (qs.map fun x => if x.1 = nk k then (x.1, x.2.1, v) else x) := by
          intro ps qs r
          unfold NWV at r
          induction r with
          | nil => exact .nil
          | @cons p q ps qs h t ih =>
            rw [List.map_cons, List.map_cons]
            refine .cons ?_ ih
            by_cases e : p.1 = k
            · rw [if_pos e, if_pos (by rw [h.1, e])]; exact ⟨h.1, h.2.1, h.2.2.1, h.2.2.2.1, rw'⟩
            · rw [if_neg e, if_neg (fun z => e (nk_inj _ _ h.2.1 hk (h.1.symm.trans z)))]; exact h
        exact all t
  · have app : ∀ {l1 l1' : List (W × W)} {l2 l2' : List (NestedKey × Addr × V)}, NWV H l1 l2 → NWV H l1' l2' → NWV H (l1 ++ l1') (l2 ++ l2') := by
      intro l1 l1' l2 l2' h1 h2
      unfold NWV at h1
      induction h1 with
      | nil => exact h2
      | cons h t ih => exact .cons h ih
    exact app r (.cons ⟨rfl, hk, hd, rk, rw'⟩ .nil)
/-- what is found -/
theorem found_of {H : Hp} {kws : List (W × W)} {es : List (NestedKey × Addr × V)} {xs : List (NestedKey × Addr × Value)} (r : NWV H kws es) (q : RawE es xs) {k : W} (hk : kbl k = true) :
    match lk kws k with
    | some w => ∃ b v u, atKey xs (nk k) = some (b, u) ∧ RV H w v ∧ RelV v u
    | none => atKey xs (nk k) = none := by
  unfold NWV at r
  induction r generalizing xs with
  | nil =>
    unfold RawE at q
    cases q
    rfl
  | @cons p e ps es' h t ih =>
    unfold RawE at q
    cases q with
    | @cons _ x _ xs' hq tq =>
      have ih := ih tq
      rw [lk_cons]
      unfold atKey
      rw [List.find?_cons, ← hq.1, h.1]
      by_cases z : p.1 = k
      · subst z
        rw [if_pos rfl, decide_eq_true rfl]
        exact ⟨x.2.1, e.2.2, x.2.2, rfl, h.2.2.2.2, hq.2.2⟩
      · rw [if_neg z, decide_eq_false (fun y => z (nk_inj _ _ h.2.1 hk y))]
        exact ih
mutual
/-- a tracked tuple is a key -/
theorem nested_of {X : Cx} {pins : List (Addr × Obj)} {σ : St} {H : Hp} {s : Shared} (I : Inv X pins σ H s) : ∀ (w : W) (v : V) (u : Value), kbl w = true → RV H w v → RelV v u → NestedIs s.heap (nk w) u
  | .non, _, _, _, h, r => by cases (show _ = V.non from h); cases r; exact .none
  | .bl _, _, _, hk, _, _ => by simp [kbl] at hk
  | .int i, _, _, _, h, r => by cases (show _ = V.int i from h); obtain ⟨t, rfl⟩ := r; exact .int i t
  | .str x, _, _, _, h, r => by cases (show _ = V.str x from h); obtain ⟨t, rfl⟩ := r; exact .text x t
  | .ref _, _, _, hk, _, _ => by simp [kbl] at hk
  | .tup ws, _, _, hk, ⟨a, vs, e, ha, rr⟩, r => by
    subst e
    cases r
    obtain ⟨its, rv, ⟨o, ho, hc, n, hd⟩, _⟩ := I.tuple (SqT.of ha)
    exact .tup ho hc hd (nesteds_of I ws vs its (by simpa [kbl] using hk) rr rv)
theorem nesteds_of {X : Cx} {pins : List (Addr × Obj)} {σ : St} {H : Hp} {s : Shared} (I : Inv X pins σ H s) : ∀ (ws : List W) (vs : List V) (us : List Value), kbls ws = true → RVs H ws vs → Vals vs us → NestedAll s.heap (nks ws) us
  | [], _, _, _, h, r => by cases (show _ = ([] : List V) from h); cases r; exact .nil
  | w :: ws, _, _, hk, ⟨v, vs, e, h1, h2⟩, r => by
    subst e
    simp only [kbls, Bool.and_eq_true] at hk
    cases r with
    | cons r1 r2 => exact .cons (nested_of I w v _ hk.1 h1 r1) (nesteds_of I ws vs _ hk.2 h2 r2)
end
def keyOk (w : W) : Bool := match w with
  | .tup ws => kbls ws && Nat.ble (NestedKey.depthAll (nks ws)) 7
  | _ => false
theorem keyOk_k {w : W} (h : keyOk w = true) : kbl w = true ∧ (nk w).depth ≤ 8 := by
  cases w with
  | tup ws =>
    simp only [keyOk, Bool.and_eq_true] at h
    refine ⟨by rw [kbl]; exact h.1, ?_⟩
    rw [nk, NestedKey.depth]
    have := Nat.le_of_ble_eq_true h.2
    omega
  | _ => simp [keyOk] at h
section
variable {X : Cx} {pins : List (Addr × Obj)} {σ : St} {H : Hp} {s : Shared} {G : AH} {d : Addr} {kws : List (W × W)}
theorem dictN_at (I : Inv X pins σ H s) (g : RG (cc X) H G) (h : G d = some (.dN kws)) : ∃ es xs, H d = some (.ext (rawN X.prog X.w d es)) ∧ NWV H kws es ∧ RawE es xs ∧ es.length ≤ sizeLine ∧ (d == sysModules) = false ∧ s.heap.DictOfH (nestedKind X.prog X.w) d xs := by
  obtain ⟨es, hd, r⟩ := g d _ h
  obtain ⟨⟨z, ns, xs, q, o, es', ep, h1, h2, h3, h4, h5⟩, _⟩ := I.hok d _ hd
  refine ⟨es, xs, hd, r, q, z, ns, o, es', ep, h1, h2, h3, h4, fun x hx => ?_, h5⟩
  have go : ∀ {kws : List (W × W)} {es : List (NestedKey × Addr × V)} {xs : List (NestedKey × Addr × Value)}, NWV H kws es → RawE es xs → ∀ x ∈ xs, (nestedKind X.prog X.w).is s.heap x.1 x.2.1 := by
    intro kws es xs r q
    unfold NWV at r
    induction r generalizing xs with
    | nil => intro x hx; unfold RawE at q; cases q; cases hx
    | cons h t ih =>
      intro x hx
      unfold RawE at q
      cases q with
      | cons hq tq =>
        rcases List.mem_cons.mp hx with e | hx
        · subst e
          rw [← hq.1, ← hq.2.1, h.1]
          exact ⟨nested_of I _ _ _ h.2.1 h.2.2.2.1 rfl, h.2.2.1⟩
        · exact ih tq x hx
  exact go r q x hx
theorem RawE.len {es : List (NestedKey × Addr × V)} {xs : List (NestedKey × Addr × Value)} (q : RawE es xs) : es.length = xs.length := Paired.length q
theorem NWV.len {es : List (NestedKey × Addr × V)} (q : NWV H kws es) : kws.length = es.length := Paired.length q
/-- behind a store -/
theorem dictN_put (I : Inv X pins σ H s) (g : RG (cc X) H G) (h : G d = some (.dN kws)) {k w : W} {b : Addr} {v : V} {u : Value} (hk : keyOk k = true) (rk : RV H k (.ref b)) (rw' : RV H w v) (ru : RelV v u) (hl : kws.length < sizeLine) {Q : Unit → Shared → Prop} (hu : X.A.units + 9 < cLine)
    (q : ∀ s' H', Inv X pins σ H' s' → Keep H H' → RG (cc X) H' (aup G d (.dN (pk kws k w))) → Q () s') : wpAny (model X.prog X.w) X.A (setItem (.ref d) (.ref b) u) Q X.xe s := by
  obtain ⟨es, xs, hd, r, e, hz, ns, dd⟩ := dictN_at I g h
  obtain ⟨hk1, hk2⟩ := keyOk_k hk
  refine wpAny_setItem_heap (knd := nestedKind X.prog X.w) (k := nk k) (show X.A.in1.units + 8 < cLine by show X.A.units + 1 + 8 < cLine; omega) ⟨nested_of I k _ _ hk1 rk rfl, hk2⟩ dd (fun h' dd' hs => ?_) (by rw [← e.len, ← r.len]; omega)
  have kk : Keep H (upd H d (.ext (rawN X.prog X.w d (stE es (nk k) b v)))) := Keep.mut hd (fun _ q => nomatch q)
  obtain ⟨o, es', ep, h1, h2, h3, h4, h5, h6⟩ := dd'
  have r2 : NWV H (pk kws k w) (stE es (nk k) b v) := r.store hk1 hk2 rk rw'
  have raw : rawN X.prog X.w d (stE es (nk k) b v) h' := ⟨by rw [← r2.len]; have := pk_len kws k w; omega, ns, _, e.store (nk k) b ru, o, es', ep, h1, h2, h3, h4, h6⟩
  refine q _ (upd H d (.ext (rawN X.prog X.w d (stE es (nk k) b v)))) (d_write I (by rw [hd]; exact True.intro) hs ⟨o, h1⟩ ⟨raw, ⟨o, h1⟩, fun g1 g2 p1 p2 => ?_⟩) kk (g.put kk (show RO _ _ d (.dN _) from ⟨_, upd_same, Paired.mapP r2 fun _ _ z => ⟨z.1, z.2.1, z.2.2.1, z.2.2.2.1.mono kk, z.2.2.2.2.mono kk⟩⟩))
  obtain ⟨z1, z2, ys, z3, o2, e2, ep2, z4, z5⟩ := p1
  exact ⟨z1, z2, ys, z3, o2, e2, ep2, p2 _ z4, z5⟩
end
section
variable {X : Cx} {a b o i e : Expr} {pos : Pos} {ρ : AS} {G : AH} {K : W → AH → Prop} {KB : Bool → AH → Prop}
/-- {} to hold tuples as keys -/
theorem q_dnewN (k : ∀ p, G p = none → K (.ref p) (aup G p (.dN []))) : EQ X (.Dict [] [] pos) ρ G K := ⟨fun pins s σ H I rs rg => by
  have hn : H s.heap.objs.size = none := I.hok.fresh (Nat.le_refl _)
  have raw : rawN X.prog X.w s.heap.objs.size [] (s.heap.push { cls := .type "dict", data := .dict #[] }) := ⟨Nat.zero_le _, beq_eq_false_iff_ne.mpr (Ne.symm (Nat.ne_of_lt I.big)), [], .nil, _, #[], 0, Heap.get?_push_size _ rfl, ⟨rfl, rfl, rfl⟩, rfl, rfl, List.nodup_nil⟩
  refine wpAny_Dict_empty ⟨.ref s.heap.objs.size, _, I.laid (a := s.heap.objs.size) (o := .ext (rawN X.prog X.w s.heap.objs.size [])) (t' := s.toks) (fun _ _ q => Heap.get?_push_of_some _ q) (Nat.le_refl _) ⟨raw, ⟨_, Heap.get?_push_size _ rfl⟩, fun g1 g2 p1 p2 => ?_⟩, rfl, .ref s.heap.objs.size, _, Keep.new hn, rfl, rg.new hn (show RO _ _ _ (.dN []) from ⟨[], upd_same, .nil⟩), k _ (rg.free hn)⟩
  obtain ⟨z1, z2, ys, z3, o2, e2, ep2, z4, z5⟩ := p1
  exact ⟨z1, z2, ys, z3, o2, e2, ep2, p2 _ z4, z5⟩⟩
theorem ref_of {H : Hp} {w : W} {v : V} (h : keyOk w = true) (r : RV H w v) : ∃ b, v = .ref b := by
  cases w with
  | tup ws => obtain ⟨a, _, e, _⟩ := r; exact ⟨a, e⟩
  | _ => simp [keyOk] at h
def fDin (neg : Bool) : WR := fun x y G K => match y with
  | .ref d => ∃ kws, G d = some (.dN kws) ∧ keyOk x = true ∧ K (.bl (if neg then !(lk kws x).isSome else (lk kws x).isSome)) G
  | _ => False
theorem in_some {H : Hp} {kws : List (W × W)} {es : List (NestedKey × Addr × V)} {xs : List (NestedKey × Addr × Value)} (r : NWV H kws es) (q : RawE es xs) {k : W} (hk : kbl k = true) : (atKey xs (nk k)).isSome = (lk kws k).isSome := by
  rw [← q.any, r.any hk]
theorem rr_din (hu : X.A.units + 9 < cLine) : OpR X (compareOp .In) (fun u v H Q => ∃ x y G K, RV H x u ∧ RV H y v ∧ RG (cc X) H G ∧ fDin false x y G K ∧ ∀ z H', CW (cc X) H K z H' → Q z H') := by
  rintro pins s σ H u v uu vv Q I ru rv ⟨x, y, G, K, rx, ry, g, h, q⟩
  cases y with
  | ref d =>
    obtain ⟨kws, hd, hk, k⟩ := h
    cases (show v = .ref d from ry)
    cases (show vv = Value.ref d from rv)
    obtain ⟨bk, e⟩ := ref_of hk rx
    subst e
    cases (show uu = Value.ref bk from ru)
    obtain ⟨es, xs, hd', r, e, hz, ns, dd⟩ := dictN_at I g hd
    obtain ⟨hk1, hk2⟩ := keyOk_k hk
    refine wpAny_in_heap (knd := nestedKind X.prog X.w) (k := nk x) (show X.A.in1.units + 8 < cLine by show X.A.units + 1 + 8 < cLine; omega) ⟨nested_of I x _ _ hk1 rx rfl, hk2⟩ ns dd ?_
    rw [in_some r e hk1]
    exact ⟨.bl _, H, I.tok _, rfl, q _ _ (.stay (w := .bl _) rfl g k)⟩
  | _ => exact h.elim
theorem rr_dnin (hu : X.A.units + 9 < cLine) : OpR X (compareOp .NotIn) (fun u v H Q => ∃ x y G K, RV H x u ∧ RV H y v ∧ RG (cc X) H G ∧ fDin true x y G K ∧ ∀ z H', CW (cc X) H K z H' → Q z H') := by
  rintro pins s σ H u v uu vv Q I ru rv ⟨x, y, G, K, rx, ry, g, h, q⟩
  cases y with
  | ref d =>
    obtain ⟨kws, hd, hk, k⟩ := h
    cases (show v = .ref d from ry)
    cases (show vv = Value.ref d from rv)
    obtain ⟨bk, e⟩ := ref_of hk rx
    subst e
    cases (show uu = Value.ref bk from ru)
    obtain ⟨es, xs, hd', r, e, hz, ns, dd⟩ := dictN_at I g hd
    obtain ⟨hk1, hk2⟩ := keyOk_k hk
    refine notIn_keyed (knd := nestedKind X.prog X.w) (k := nk x) (kvs := pairsH xs) (show X.A.in1.units + 8 < cLine by show X.A.units + 1 + 8 < cLine; omega) ⟨nested_of I x _ _ hk1 rx rfl, hk2⟩ ns ⟨xs, dd, rfl⟩ ?_
    rw [valueAt_pairsH, Option.isSome_map, in_some r e hk1]
    exact ⟨.bl _, H, I.tok _, rfl, q _ _ (.stay (w := .bl _) rfl g k)⟩
  | _ => exact h.elim
theorem b_dinN (hu : X.A.units + 9 < cLine) (h : EQ X a ρ G fun x G1 => EQ X b ρ G1 fun y G2 => fDin false x y G2 (tst KB)) (hm : behindInMarks .In b = false := by rfl) : BQ X (.Compare a [.In] [b] pos) ρ G KB :=
  b_cmp (R := fDin false) (rr_din hu) (fun x y u v H G K Q rx ry g h q => ⟨x, y, G, K, rx, ry, g, h, q⟩) hm h
theorem b_dninN (hu : X.A.units + 9 < cLine) (h : EQ X a ρ G fun x G1 => EQ X b ρ G1 fun y G2 => fDin true x y G2 (tst KB)) (hm : behindInMarks .NotIn b = false := by rfl) : BQ X (.Compare a [.NotIn] [b] pos) ρ G KB :=
  b_cmp (R := fDin true) (rr_dnin hu) (fun x y u v H G K Q rx ry g h q => ⟨x, y, G, K, rx, ry, g, h, q⟩) hm h
/-- d[k] -/
def fDgetN : WR := fun x y G K => match x with
  | .ref d => ∃ kws w, G d = some (.dN kws) ∧ keyOk y = true ∧ lk kws y = some w ∧ K w G
  | _ => False
theorem q_dgetN (hu : X.A.units + 9 < cLine) (h : EQ X o ρ G fun x G1 => EQ X i ρ G1 fun y G2 => fDgetN x y G2 K) (hs : NoSl i := by exact fun _ _ => rfl) : EQ X (.Subscript o i pos) ρ G K := ⟨fun pins s σ H I rs rg => by
  refine subD_of PySem.F.slot_dict_getitem.lookup hs (thn (h.run pins s σ H I rs rg) fun u s1 ⟨v, H1, I1, r1, x, G1, k1, rx, rg1, q1⟩ => thn (q1.run pins s1 σ H1 I1 (rs.mono k1) rg1) fun iv s2 ⟨v2, H2, I2, r2, y, G2, k2, ry, rg2, q2⟩ => ?_)
  cases x with
  | ref d =>
    obtain ⟨kws, w, hd, hk, hw, k⟩ := q2
    cases (show v = .ref d from rx)
    cases (show u = Value.ref d from r1)
    obtain ⟨bk, e⟩ := ref_of hk ry
    subst e
    cases (show iv = Value.ref bk from r2)
    obtain ⟨es, xs, hd', r, e, hz, ns, dd⟩ := dictN_at I2 rg2 hd
    obtain ⟨hk1, hk2⟩ := keyOk_k hk
    refine ⟨dd.typeIs, ?_⟩
    have f := found_of r e hk1
    rw [hw] at f
    obtain ⟨b', v', u', f1, f2, f3⟩ := f
    exact wpAny_getItem_heap (knd := nestedKind X.prog X.w) (k := nk y) (show X.A.in1.units + 8 < cLine by show X.A.units + 1 + 8 < cLine; omega) ⟨nested_of I2 y _ _ hk1 ry rfl, hk2⟩ dd f1 ⟨v', H2, I2.tok _, f3, w, G2, k1.trans k2, f2, rg2, k⟩
  | _ => exact q2.elim⟩
/-- d[k] = v, as a target -/
def fDputN : W → W → W → AH → (AH → Prop) → Prop := fun x y w G K => match x with
  | .ref d => ∃ kws, G d = some (.dN kws) ∧ keyOk y = true ∧ kws.length < sizeLine ∧ K (aup G d (.dN (pk kws y w)))
  | _ => False
theorem g_dputN {w : W} {KS : AS → AH → Prop} (hu : X.A.units + 9 < cLine) (h : EQ X o ρ G fun x G1 => EQ X i ρ G1 fun y G2 => fDputN x y w G2 (KS ρ))
    (ha : ∀ v, assign (.Subscript o i pos) X.env v = (do
      let ov ← holding [v] (eval o X.env)
      let iv ← holding [v, ov] (eval i X.env)
      standAt pos
      holding [v, ov, iv] (setItem ov iv v)
      release [v, ov, iv] []) := by intro _; rfl) : GQ X (.Subscript o i pos) w ρ G KS :=
  g_sub (t := fun u j v H Q => ∃ x y G K, RV H x u ∧ RV H y j ∧ RV H w v ∧ RG (cc X) H G ∧ fDputN x y w G K ∧ ∀ H' G', Keep H H' → RG (cc X) H' G' → K G' → Q H')
    (R := fun x y w' G K => w' = w ∧ fDputN x y w G K) (by
      rintro pins s σ H u j v uv jv vv Q I ru rj rv ⟨x, y, G, K, rx, ry, rw', g, hh, q⟩
      cases x with
      | ref d =>
        obtain ⟨kws, hd, hk, hl, k⟩ := hh
        cases (show u = .ref d from rx)
        cases (show uv = Value.ref d from ru)
        obtain ⟨bk, e⟩ := ref_of hk ry
        subst e
        cases (show jv = Value.ref bk from rj)
        exact dictN_put I g hd hk ry rw' rv hl hu fun s' H' I' kk gg => ⟨H', I', q _ _ kk gg k⟩
      | _ => exact hh.elim)
    (fun o i w' u j v H G K Q ro ri rw' g ⟨e, h⟩ q => by subst e; exact ⟨o, i, G, K, ro, ri, rw', g, h, q⟩) (h.mono fun x G1 h => h.mono fun y G2 h => ⟨rfl, h⟩) ha
end
end AL
namespace AL
open PySem PySem.Spec L2
open PyProof.Rows hiding St

/-! ### promises of defs -/
abbrev XKA := Value → Option Addr → AH → Prop
abbrev ASp := List W → AH → (W → AH → Prop) → XKA → Prop
def CX' (c : Ct) (H : Hp) (KE : XKA) : XK := fun u o H' => ∃ G', Keep H H' ∧ RG c H' G' ∧ KE u o G'
def low (c : Ct) (sp : ASp) : Sp := fun vs H Q E => ∃ ws G K KE, RVs H ws vs ∧ RG c H G ∧ sp ws G K KE ∧ (∀ v H', CW c H K v H' → Q v H') ∧ ∀ u o H', CX' c H KE u o H' → E u o H'
abbrev noE : XKA := fun _ _ _ => False
theorem fnA_of {P : Program} {w : World} {K : PySem.W.Frag} {mg : Str → Option Value} {base : Heap} {x qual : Str} {st : Stmt} {f : Addr} {fd : FuncData} {N ps : List Str} {k : Nat} {sp : ASp} (F : Fun K x qual st f fd) (S : FnScope N ps (defScope st))
    (len : ∀ ws G Kc KE, sp ws G Kc KE → ws.length = ps.length)
    (body : ∀ (cdv : Value) (A : Around) (outer : List Env) (s : Shared) (H : Hp) (E : XK) (ws : List W) (G : AH) (Kc : W → AH → Prop) (KE : XKA), Room k (A.deeper (envOfC qual (defScope st) s.heap.objs.size f cdv)) → sp ws G Kc KE →
      SQ (cxOf CX0 P w K mg base N qual (defScope st) f cdv A outer s H E).nox (defBody st) (startW N ws) G { nx := fun _ G' => ∃ G'', Sub G'' G' ∧ Kc .non G'', rt := fun v G' => ∃ G'', Sub G'' G' ∧ Kc v G'' }) :
    FnOk P w K mg base CX0 (k + 1) f fd ps (low ⟨P, w, K⟩ sp) := by
  refine F.ok S (fun vs H Q E ⟨ws, G, Kc, KE, r, g, h, _, _⟩ => by rw [← r.length]; exact len ws G Kc KE h) fun cdv A outer s H vs Q E hr ⟨ws, G, Kc, KE, r, g, h, q, _⟩ => ?_
  refine ⟨_, pss_S, startW N ws, G, _, body cdv A outer s H E ws G Kc KE hr h, RS.start r, g, ?_⟩
  exact ⟨fun σ' H' ⟨ρ', G', k1, _, g1, G'', s1, q1⟩ => q _ _ ⟨.non, G'', k1, rfl, g1.sub s1, q1⟩, fun v H' ⟨w, G', k1, r1, g1, G'', s1, q1⟩ => q v H' ⟨w, G'', k1, r1, g1.sub s1, q1⟩, fun _ _ ⟨_, _, _, _, _, z⟩ => z, fun _ _ ⟨_, _, _, _, _, z⟩ => z⟩
section
variable {X : Cx} {a b o i e : Expr} {es : List Expr} {p pos apos : Pos} {ρ : AS} {G : AH} {K : W → AH → Prop} {KB : Bool → AH → Prop} {k : Nat} {f : Addr} {fd : FuncData} {ps : List Str} {sp : ASp} {x : Str}
theorem q_call (F : FnOk X.prog X.w X.K X.mg X.base CX0 k f fd ps (low (cc X) sp)) (hr : Room k X.A) (hm : X.mg x = some (.ref f)) (hk : PySem.W.keepIn X.K (.ref f) = true) (hb : Binds X.K fd ps [])
    (h : AQ X (e :: es) ρ G fun ws G1 => sp ws G1 K noE) (hg : Gl X x := by rfl) (hdb : (x == ("__debug__" : Str)) = false := by decide) (he : starEach (e :: es) X.env = (false, eval e X.env) :: starEach es X.env := by rfl) (hpl : (backTo pos (starEach es X.env)).any (·.1) = false := by rfl) :
    EQ X (.Call (.Name x p) (e :: es) [] pos) ρ G K :=
  EQ.of (pe_call F hr hg hm hk hb .nil pass0 pa_A hdb he hpl) fun σ H rs rg => ⟨ρ, G, _, h, rs, rg, fun vs H1 ⟨ws, G1, k1, r1, rg1, _, q⟩ => by
    show low (cc X) sp (vs ++ []) H1 (CW (cc X) H K) E0
    rw [List.append_nil]
    exact ⟨ws, G1, K, noE, r1, rg1, q, fun v H' z => z.pre k1, fun _ _ _ ⟨_, _, _, z⟩ => z.elim⟩⟩
/-- .. with its last parameters left out -/
theorem q_callD {dvs : List V} {ds : List Value} {dws : List W} (F : FnOk X.prog X.w X.K X.mg X.base CX0 k f fd ps (low (cc X) sp)) (hr : Room k X.A) (hm : X.mg x = some (.ref f)) (hk : PySem.W.keepIn X.K (.ref f) = true) (hb : Binds X.K fd ps ds) (hd : Vals dvs ds) (hw : ∀ H, RVs H dws dvs)
    (h : AQ X (e :: es) ρ G fun ws G1 => sp (ws ++ dws) G1 K noE) (hg : Gl X x := by rfl) (hdb : (x == ("__debug__" : Str)) = false := by decide) (he : starEach (e :: es) X.env = (false, eval e X.env) :: starEach es X.env := by rfl) (hpl : (backTo pos (starEach es X.env)).any (·.1) = false := by rfl) :
    EQ X (.Call (.Name x p) (e :: es) [] pos) ρ G K :=
  EQ.of (pe_call F hr hg hm hk hb hd pass0 pa_A hdb he hpl) fun σ H rs rg => ⟨ρ, G, _, h, rs, rg, fun vs H1 ⟨ws, G1, k1, r1, rg1, _, q⟩ =>
    ⟨ws ++ dws, G1, K, noE, r1.append (hw H1), rg1, q, fun v H' z => z.pre k1, fun _ _ _ ⟨_, _, _, z⟩ => z.elim⟩⟩

/-- a def of the text, kept, that keeps its promise -/
structure Cal (P : Program) (w : World) (K : PySem.W.Frag) (mg : Str → Option Value) (base : Heap) (x : Str) (k : Nat) (ps : List Str) (sp : ASp) : Prop where
  ex : ∃ f fd, FnOk P w K mg base CX0 k f fd ps (low ⟨P, w, K⟩ sp) ∧ mg x = some (.ref f) ∧ PySem.W.keepIn K (.ref f) = true ∧ Binds K fd ps []
theorem q_cal {ps : List Str} (C : Cal X.prog X.w X.K X.mg X.base x k ps sp) (hr : Room k X.A) (h : AQ X (e :: es) ρ G fun ws G1 => sp ws G1 K noE) (hg : Gl X x := by rfl) (hdb : (x == ("__debug__" : Str)) = false := by decide) (he : starEach (e :: es) X.env = (false, eval e X.env) :: starEach es X.env := by rfl) (hpl : (backTo pos (starEach es X.env)).any (·.1) = false := by rfl) :
    EQ X (.Call (.Name x p) (e :: es) [] pos) ρ G K := by
  obtain ⟨f, fd, F, hm, hk, hb⟩ := C.ex
  exact q_call F hr hm hk hb h hg hdb he hpl

/-! ### built-ins -/
abbrev CRW := List W → AH → (W → AH → Prop) → Prop
def CR' (c : Ct) (r : List V → Hp → VK → Prop) (R : CRW) : Prop := ∀ ws vs H G K (Q : VK), RVs H ws vs → RG c H G → R ws G K → (∀ z H', CW c H K z H' → Q z H') → r vs H Q
theorem q_callB {id : String} {r : List V → Hp → VK → Prop} {R : CRW} (hc : CallR X (.builtin id) r) (rr : CR' (cc X) r R) (hm : X.mg x = none) (hv : bootBuiltins x = some (.builtin id)) (h : AQ X (e :: es) ρ G fun ws G1 => R ws G1 K)
    (hg : Gl X x := by rfl) (hn : x ≠ "__name__" := by decide) (hdb : (x == ("__debug__" : Str)) = false := by decide)
    (he : starEach (e :: es) X.env = (false, eval e X.env) :: starEach es X.env := by rfl) (hpl : (backTo pos (starEach es X.env)).any (·.1) = false := by rfl) : EQ X (.Call (.Name x p) (e :: es) [] pos) ρ G K :=
  EQ.of (pe_callB hc hg hm hv pa_A hn hdb he hpl) fun σ H rs rg => ⟨ρ, G, _, h, rs, rg, fun vs H1 ⟨ws, G1, k1, r1, rg1, _, q⟩ => rr ws vs H1 G1 K _ r1 rg1 q fun v H' z => z.pre k1⟩
theorem q_callT {T : String} {r : List V → Hp → VK → Prop} {R : CRW} (hc : CallR X (.type T) r) (rr : CR' (cc X) r R) (hm : X.mg x = none) (hv : bootBuiltins x = some (.type T)) (h : AQ X (e :: es) ρ G fun ws G1 => R ws G1 K)
    (hg : Gl X x := by rfl) (hn : x ≠ "__name__" := by decide) (hdb : (x == ("__debug__" : Str)) = false := by decide)
    (he : starEach (e :: es) X.env = (false, eval e X.env) :: starEach es X.env := by rfl) (hpl : (backTo pos (starEach es X.env)).any (·.1) = false := by rfl) : EQ X (.Call (.Name x p) (e :: es) [] pos) ρ G K :=
  EQ.of (pe_callTy hc hg hm hv pa_A hn hdb he hpl) fun σ H rs rg => ⟨ρ, G, _, h, rs, rg, fun vs H1 ⟨ws, G1, k1, r1, rg1, _, q⟩ => rr ws vs H1 G1 K _ r1 rg1 q fun v H' z => z.pre k1⟩
/-- len of a list, a tuple, a text -/
def fLen : CRW := fun ws G K => match ws with
  | [.tup xs] => K (.int xs.length) G
  | [.str z] => z.length ≤ sizeLine ∧ K (.int z.length) G
  | [.ref a] => ∃ xs, G a = some (.lst xs) ∧ K (.int xs.length) G
  | _ => False
theorem rv1 {H : Hp} {w : W} {vs : List V} (r : RVs H [w] vs) : ∃ v, vs = [v] ∧ RV H w v := by
  obtain ⟨v, t, e, h, q⟩ := r
  cases (show t = [] from q)
  exact ⟨v, e, h⟩
theorem rv2 {H : Hp} {w w' : W} {vs : List V} (r : RVs H [w, w'] vs) : ∃ v v', vs = [v, v'] ∧ RV H w v ∧ RV H w' v' := by
  obtain ⟨v, t, e, h, q⟩ := r
  obtain ⟨v', e', h'⟩ := rv1 q
  subst e'
  exact ⟨v, v', e, h, h'⟩
theorem cr_len {c : Ct} : CR' c (fun xs H Q => ∃ x n, xs = [x] ∧ LenV c.K x H n ∧ Q (.int n) H) fLen := by
  intro ws vs H G K Q r g h q
  match ws, h with
  | [.tup xs], h =>
    obtain ⟨v, rfl, a, us, rfl, ha, rr⟩ := rv1 r
    exact ⟨_, us.length, rfl, .inr ⟨us, SqT.of ha, rfl⟩, q _ _ (.stay (w := .int xs.length) (by rw [rr.length]; rfl) g h)⟩
  | [.str z], h =>
    obtain ⟨v, rfl, hv⟩ := rv1 r
    cases (show v = .str z from hv)
    exact ⟨_, z.length, rfl, ⟨h.1, rfl⟩, q _ _ (.stay (w := .int z.length) rfl g h.2)⟩
  | [.ref a], ⟨xs, ha, k⟩ =>
    obtain ⟨v, rfl, hv⟩ := rv1 r
    cases (show v = .ref a from hv)
    obtain ⟨us, hu, rr⟩ := g.lst ha
    exact ⟨_, us.length, rfl, .inl ⟨us, SqL.of hu, rfl⟩, q _ _ (.stay (w := .int xs.length) (by rw [rr.length]; rfl) g k)⟩
theorem q_len (hm : X.mg "len" = none) (h : AQ X (e :: es) ρ G fun ws G1 => fLen ws G1 K) (hg : Gl X "len" := by rfl)
    (he : starEach (e :: es) X.env = (false, eval e X.env) :: starEach es X.env := by rfl) (hpl : (backTo pos (starEach es X.env)).any (·.1) = false := by rfl) : EQ X (.Call (.Name "len" p) (e :: es) [] pos) ρ G K :=
  q_callB call_len cr_len hm PySem.boot_len h hg (by decide) (by decide) he hpl
def f1I (g : Int → W) : CRW := fun ws G K => match ws with
  | [.int i] => K (g i) G
  | _ => False
def f2I (g : Int → Int → Int) : CRW := fun ws G K => match ws with
  | [.int i, .int j] => K (.int (g i j)) G
  | _ => False
theorem cr_2I {c : Ct} {g : Int → Int → Int} : CR' c (fun xs H Q => ∃ i j, xs = [.int i, .int j] ∧ Q (.int (g i j)) H) (f2I g) := by
  intro ws vs H G K Q r gg h q
  match ws, h with
  | [.int i, .int j], h =>
    obtain ⟨v, v', rfl, h1, h2⟩ := rv2 r
    cases (show v = .int i from h1)
    cases (show v' = .int j from h2)
    exact ⟨i, j, rfl, q _ _ (.stay (w := .int (g i j)) rfl gg h)⟩
theorem q_min2 (hm : X.mg "min" = none) (h : AQ X (e :: es) ρ G fun ws G1 => f2I (fun i j => if j < i then j else i) ws G1 K) (hc : X.calm = true := by rfl) (hg : Gl X "min" := by rfl)
    (he : starEach (e :: es) X.env = (false, eval e X.env) :: starEach es X.env := by rfl) (hpl : (backTo pos (starEach es X.env)).any (·.1) = false := by rfl) : EQ X (.Call (.Name "min" p) (e :: es) [] pos) ρ G K :=
  q_callB (call_min2 hc) cr_2I hm (by decide +kernel) h hg (by decide) (by decide) he hpl
theorem q_max2 (hm : X.mg "max" = none) (h : AQ X (e :: es) ρ G fun ws G1 => f2I (fun i j => if j > i then j else i) ws G1 K) (hc : X.calm = true := by rfl) (hg : Gl X "max" := by rfl)
    (he : starEach (e :: es) X.env = (false, eval e X.env) :: starEach es X.env := by rfl) (hpl : (backTo pos (starEach es X.env)).any (·.1) = false := by rfl) : EQ X (.Call (.Name "max" p) (e :: es) [] pos) ρ G K :=
  q_callB (call_max2 hc) cr_2I hm (by decide +kernel) h hg (by decide) (by decide) he hpl
def fAbs : CRW := fun ws G K => match ws with
  | [.int i] => K (.int (if i < 0 then -i else i)) G
  | _ => False
theorem cr_abs {c : Ct} : CR' c (fun xs H Q => ∃ i, xs = [.int i] ∧ Q (.int (if i < 0 then -i else i)) H) fAbs := by
  intro ws vs H G K Q r gg h q
  match ws, h with
  | [.int i], h =>
    obtain ⟨v, rfl, h1⟩ := rv1 r
    cases (show v = .int i from h1)
    exact ⟨i, rfl, q _ _ (.stay (w := .int _) rfl gg h)⟩
theorem q_abs (hm : X.mg "abs" = none) (h : AQ X (e :: es) ρ G fun ws G1 => fAbs ws G1 K) (hg : Gl X "abs" := by rfl)
    (he : starEach (e :: es) X.env = (false, eval e X.env) :: starEach es X.env := by rfl) (hpl : (backTo pos (starEach es X.env)).any (·.1) = false := by rfl) : EQ X (.Call (.Name "abs" p) (e :: es) [] pos) ρ G K :=
  q_callB call_abs cr_abs hm (by decide +kernel) h hg (by decide) (by decide) he hpl
/-- int of a number, of a truth value -/
def fInt : CRW := fun ws G K => match ws with
  | [.int i] => K (.int i) G
  | [.bl b] => K (.int (if b then 1 else 0)) G
  | _ => False
theorem cr_int {c : Ct} : CR' c (fun xs H Q => (∃ i, xs = [.int i] ∧ Q (.int i) H) ∨ ∃ k, xs = [.bl k] ∧ Q (.int (if k then 1 else 0)) H) fInt := by
  intro ws vs H G K Q r gg h q
  match ws, h with
  | [.int i], h =>
    obtain ⟨v, rfl, h1⟩ := rv1 r
    cases (show v = .int i from h1)
    exact .inl ⟨i, rfl, q _ _ (.stay (w := .int _) rfl gg h)⟩
  | [.bl i], h =>
    obtain ⟨v, rfl, h1⟩ := rv1 r
    cases (show v = .bl i from h1)
    exact .inr ⟨i, rfl, q _ _ (.stay (w := .int _) rfl gg h)⟩
theorem q_int1 (hm : X.mg "int" = none) (h : AQ X (e :: es) ρ G fun ws G1 => fInt ws G1 K) (hg : Gl X "int" := by rfl)
    (he : starEach (e :: es) X.env = (false, eval e X.env) :: starEach es X.env := by rfl) (hpl : (backTo pos (starEach es X.env)).any (·.1) = false := by rfl) : EQ X (.Call (.Name "int" p) (e :: es) [] pos) ρ G K :=
  q_callT call_int1 cr_int hm (by decide +kernel) h hg (by decide) (by decide) he hpl
/-- list(..) of a list, a tuple -/
def fList : CRW := fun ws G K => match ws with
  | [.tup xs] => ∀ p, G p = none → K (.ref p) (aup G p (.lst xs))
  | [.ref a] => ∃ xs, G a = some (.lst xs) ∧ ∀ p, G p = none → K (.ref p) (aup G p (.lst xs))
  | _ => False
theorem cr_list {c : Ct} : CR' c (fun xs H Q => ∃ p ys, xs = [.ref p] ∧ (SqL c.K H p ys ∨ SqT c.K H p ys) ∧ ∀ l, H l = none → Q (.ref l) (upd H l (.lst ys))) fList := by
  intro ws vs H G K Q r g h q
  match ws, h with
  | [.tup xs], h =>
    obtain ⟨v, rfl, a, us, rfl, ha, rr⟩ := rv1 r
    exact ⟨a, us, rfl, .inr (SqT.of ha), fun p hp => q _ _ ⟨.ref p, _, Keep.new hp, rfl, g.newL hp rr, h p (g.free hp)⟩⟩
  | [.ref a], ⟨xs, ha, k⟩ =>
    obtain ⟨v, rfl, hv⟩ := rv1 r
    cases (show v = .ref a from hv)
    obtain ⟨us, hu, rr⟩ := g.lst ha
    exact ⟨a, us, rfl, .inl (SqL.of hu), fun p hp => q _ _ ⟨.ref p, _, Keep.new hp, rfl, g.newL hp rr, k p (g.free hp)⟩⟩
theorem q_list (hm : X.mg "list" = none) (h : AQ X (e :: es) ρ G fun ws G1 => fList ws G1 K) (hg : Gl X "list" := by rfl)
    (he : starEach (e :: es) X.env = (false, eval e X.env) :: starEach es X.env := by rfl) (hpl : (backTo pos (starEach es X.env)).any (·.1) = false := by rfl) : EQ X (.Call (.Name "list" p) (e :: es) [] pos) ρ G K :=
  q_callT call_list_of cr_list hm (by decide +kernel) h hg (by decide) (by decide) he hpl
/-- tuple(..) of a list, a tuple -/
def fTuple : CRW := fun ws G K => match ws with
  | [.tup xs] => K (.tup xs) G
  | [.ref a] => ∃ xs, G a = some (.lst xs) ∧ K (.tup xs) G
  | _ => False
theorem cr_tuple {c : Ct} : CR' c (fun xs H Q => ∃ p ys, xs = [.ref p] ∧ ((SqL c.K H p ys ∧ ∀ l, H l = none → Q (.ref l) (upd H l (.tup ys))) ∨ (SqT c.K H p ys ∧ Q (.ref p) H))) fTuple := by
  intro ws vs H G K Q r g h q
  match ws, h with
  | [.tup xs], h =>
    obtain ⟨v, rfl, a, us, rfl, ha, rr⟩ := rv1 r
    exact ⟨a, us, rfl, .inr ⟨SqT.of ha, q _ _ (.stay (w := .tup xs) ⟨a, us, rfl, ha, rr⟩ g h)⟩⟩
  | [.ref a], ⟨xs, ha, k⟩ =>
    obtain ⟨v, rfl, hv⟩ := rv1 r
    cases (show v = .ref a from hv)
    obtain ⟨us, hu, rr⟩ := g.lst ha
    exact ⟨a, us, rfl, .inl ⟨SqL.of hu, fun p hp => q _ _ ⟨.tup xs, G, Keep.new hp, ⟨p, us, rfl, upd_same, rr.mono (Keep.new hp)⟩, g.tup hp, k⟩⟩⟩
theorem q_tuple (hm : X.mg "tuple" = none) (h : AQ X (e :: es) ρ G fun ws G1 => fTuple ws G1 K) (hg : Gl X "tuple" := by rfl)
    (he : starEach (e :: es) X.env = (false, eval e X.env) :: starEach es X.env := by rfl) (hpl : (backTo pos (starEach es X.env)).any (·.1) = false := by rfl) : EQ X (.Call (.Name "tuple" p) (e :: es) [] pos) ρ G K :=
  q_callT call_tuple_of cr_tuple hm (by decide +kernel) h hg (by decide) (by decide) he hpl
def fDivmod : CRW := fun ws G K => match ws with
  | [.int i, .int j] => CDivP i j ∧ K (.tup [.int (i / j), .int (i % j)]) G
  | _ => False
theorem cr_divmod {c : Ct} : CR' c (fun xs H Q => ∃ i j, xs = [.int i, .int j] ∧ CDivP i j ∧ ∀ p, H p = none → Q (.ref p) (upd H p (.tup [.int (i / j), .int (i % j)]))) fDivmod := by
  intro ws vs H G K Q r g h q
  match ws, h with
  | [.int i, .int j], h =>
    obtain ⟨v, v', rfl, h1, h2⟩ := rv2 r
    cases (show v = .int i from h1)
    cases (show v' = .int j from h2)
    exact ⟨i, j, rfl, h.1, fun p hp => q _ _ ⟨.tup _, G, Keep.new hp, ⟨p, _, rfl, upd_same, .cons (show RV _ (.int _) _ from rfl) (.cons (show RV _ (.int _) _ from rfl) RVs.nil)⟩, g.tup hp, h.2⟩⟩
theorem q_divmod (hm : X.mg "divmod" = none) (h : AQ X (e :: es) ρ G fun ws G1 => fDivmod ws G1 K) (hg : Gl X "divmod" := by rfl)
    (he : starEach (e :: es) X.env = (false, eval e X.env) :: starEach es X.env := by rfl) (hpl : (backTo pos (starEach es X.env)).any (·.1) = false := by rfl) : EQ X (.Call (.Name "divmod" p) (e :: es) [] pos) ρ G K :=
  q_callB call_divmodW cr_divmod hm (by decide +kernel) h hg (by decide) (by decide) he hpl
/-- any, all of a list of truth values; sum of whole numbers -/
def fAny : CRW := fun ws G K => match ws with
  | [.ref a] => ∃ bs : List Bool, G a = some (.lst (bs.map W.bl)) ∧ K (.bl (bs.any id)) G
  | _ => False
def fAll : CRW := fun ws G K => match ws with
  | [.ref a] => ∃ bs : List Bool, G a = some (.lst (bs.map W.bl)) ∧ K (.bl (bs.all id)) G
  | _ => False
def fSum : CRW := fun ws G K => match ws with
  | [.ref a] => ∃ ns : List Int, G a = some (.lst (ns.map W.int)) ∧ K (.int ns.sum) G
  | _ => False
theorem cr_any' {c : Ct} : CR' c (rAny c.K) fAny := by
  intro ws vs H G K Q r g h q
  match ws, h with
  | [.ref a], ⟨bs, ha, k⟩ =>
    obtain ⟨v, rfl, hv⟩ := rv1 r
    cases (show v = .ref a from hv)
    obtain ⟨us, hu, rr⟩ := g.lst ha
    cases rr.bls_eq
    exact ⟨a, bs, rfl, SqL.of hu, q _ _ (.stay (w := .bl _) rfl g k)⟩
theorem cr_all' {c : Ct} : CR' c (rAll c.K) fAll := by
  intro ws vs H G K Q r g h q
  match ws, h with
  | [.ref a], ⟨bs, ha, k⟩ =>
    obtain ⟨v, rfl, hv⟩ := rv1 r
    cases (show v = .ref a from hv)
    obtain ⟨us, hu, rr⟩ := g.lst ha
    cases rr.bls_eq
    exact ⟨a, bs, rfl, SqL.of hu, q _ _ (.stay (w := .bl _) rfl g k)⟩
theorem cr_sum' {c : Ct} : CR' c (rSum c.K) fSum := by
  intro ws vs H G K Q r g h q
  match ws, h with
  | [.ref a], ⟨bs, ha, k⟩ =>
    obtain ⟨v, rfl, hv⟩ := rv1 r
    cases (show v = .ref a from hv)
    obtain ⟨us, hu, rr⟩ := g.lst ha
    cases rr.ints_eq
    exact ⟨a, bs, rfl, SqL.of hu, q _ _ (.stay (w := .int _) rfl g k)⟩
theorem q_any (hm : X.mg "any" = none) (h : AQ X (e :: es) ρ G fun ws G1 => fAny ws G1 K) (hc : X.calm = true := by rfl) (hg : Gl X "any" := by rfl)
    (he : starEach (e :: es) X.env = (false, eval e X.env) :: starEach es X.env := by rfl) (hpl : (backTo pos (starEach es X.env)).any (·.1) = false := by rfl) : EQ X (.Call (.Name "any" p) (e :: es) [] pos) ρ G K :=
  q_callB (cr_any hc) cr_any' hm (by decide +kernel) h hg (by decide) (by decide) he hpl
theorem q_all (hm : X.mg "all" = none) (h : AQ X (e :: es) ρ G fun ws G1 => fAll ws G1 K) (hc : X.calm = true := by rfl) (hg : Gl X "all" := by rfl)
    (he : starEach (e :: es) X.env = (false, eval e X.env) :: starEach es X.env := by rfl) (hpl : (backTo pos (starEach es X.env)).any (·.1) = false := by rfl) : EQ X (.Call (.Name "all" p) (e :: es) [] pos) ρ G K :=
  q_callB (cr_all hc) cr_all' hm (by decide +kernel) h hg (by decide) (by decide) he hpl
theorem q_sum (hm : X.mg "sum" = none) (h : AQ X (e :: es) ρ G fun ws G1 => fSum ws G1 K) (hc : X.calm = true := by rfl) (hg : Gl X "sum" := by rfl)
    (he : starEach (e :: es) X.env = (false, eval e X.env) :: starEach es X.env := by rfl) (hpl : (backTo pos (starEach es X.env)).any (·.1) = false := by rfl) : EQ X (.Call (.Name "sum" p) (e :: es) [] pos) ρ G K :=
  q_callB (cr_sum hc) cr_sum' hm (by decide +kernel) h hg (by decide) (by decide) he hpl
end
end AL
namespace AL
open PySem PySem.Spec L2
open PyProof.Rows hiding St

/-! ### methods of lists -/
section
variable {X : Cx} {a b o i e : Expr} {es : List Expr} {p pos apos cpos : Pos} {ρ : AS} {G : AH} {K : W → AH → Prop} {KB : Bool → AH → Prop}
def MR (c : Ct) (r : V → List V → Hp → VK → Prop) (R : Addr → List W → AH → (W → AH → Prop) → Prop) : Prop := ∀ a ws vs H G K (Q : VK), RVs H ws vs → RG c H G → R a ws G K → (∀ z H', CW c H K z H' → Q z H') → r (.ref a) vs H Q
theorem q_lm {name : Str} {id : String} {r : V → List V → Hp → VK → Prop} {R : Addr → List W → AH → (W → AH → Prop) → Prop} (slot : Slot "list" name id) (hty : typeOf (.builtin id) = pure (.type "method_descriptor")) (hm : MtR X id r) (rr : MR (cc X) r R)
    (h : EQ X o ρ G fun x G1 => ∃ a xs, x = .ref a ∧ G1 a = some (.lst xs) ∧ AQ X (e :: es) ρ G1 fun ws G2 => R a ws G2 K)
    (hbase : attributeBase o name X.env (eval o X.env) = eval o X.env := by rfl)
    (hfew : ((backTo cpos (starEach (e :: es) X.env)).all (fun x => !x.1) && (backToKw cpos (keywordEach [] X.env)).all (fun x => x.1.isSome)
      && decide ((e :: es).length + ([] : List Keyword).length + (if ([] : List Keyword).isEmpty then 0 else 1) < 30)) = true := by rfl)
    (hline : (apos.endLine == cpos.line) = true := by rfl) (hs : starEach (e :: es) X.env = (false, eval e X.env) :: starEach es X.env := by rfl) (hplain : (backTo cpos (starEach es X.env)).any (·.1) = false := by rfl) :
    EQ X (.Call (.Attribute o name apos) (e :: es) [] cpos) ρ G K :=
  EQ.of (pe_bm PySem.F.plainAttrs_list slot hty hm pe_E pa_A hbase hfew hline hs hplain) fun σ H rs rg => ⟨ρ, G, _, h, rs, rg, fun u H1 ⟨x, G1, k1, rx, rg1, a, xs, ex, ha, q⟩ => by
    subst ex
    cases (show u = .ref a from rx)
    obtain ⟨vs, hv, _⟩ := rg1.lst ha
    exact ⟨.inl ⟨rfl, vs, SqL.of hv⟩, ρ, G1, _, q, rs.mono k1, rg1, fun vs H2 ⟨ws, G2, k2, r2, rg2, _, q2⟩ => rr a ws vs H2 G2 K _ r2 rg2 q2 fun z H' y => y.pre (k1.trans k2)⟩⟩
theorem q_lm0 {name : Str} {id : String} {r : V → List V → Hp → VK → Prop} {R : Addr → List W → AH → (W → AH → Prop) → Prop} (slot : Slot "list" name id) (hty : typeOf (.builtin id) = pure (.type "method_descriptor")) (hm : MtR X id r) (rr : MR (cc X) r R)
    (h : EQ X o ρ G fun x G1 => ∃ a xs, x = .ref a ∧ G1 a = some (.lst xs) ∧ R a [] G1 K)
    (hbase : attributeBase o name X.env (eval o X.env) = eval o X.env := by rfl) (hline : (apos.endLine == cpos.line) = true := by rfl) :
    EQ X (.Call (.Attribute o name apos) [] [] cpos) ρ G K :=
  EQ.of (pe_bm0 PySem.F.plainAttrs_list slot hty hm pe_E hbase hline) fun σ H rs rg => ⟨ρ, G, _, h, rs, rg, fun u H1 ⟨x, G1, k1, rx, rg1, a, xs, ex, ha, q⟩ => by
    subst ex
    cases (show u = .ref a from rx)
    obtain ⟨vs, hv, _⟩ := rg1.lst ha
    exact ⟨.inl ⟨rfl, vs, SqL.of hv⟩, rr a [] [] H1 G1 K _ RVs.nil rg1 q fun z H' y => y.pre k1⟩⟩
def mAppend (a : Addr) (ws : List W) (G : AH) (K : W → AH → Prop) : Prop := match ws with
  | [w] => ∃ xs, G a = some (.lst xs) ∧ xs.length < sizeLine ∧ K .non (aup G a (.lst (xs ++ [w])))
  | _ => False
theorem mr_append {c : Ct} : MR c rAppend mAppend := by
  intro a ws vs H G K Q r g h q
  match ws, h with
  | [w], ⟨xs, ha, hl, k⟩ =>
    obtain ⟨v, rfl, hv⟩ := rv1 r
    obtain ⟨us, hu, rr⟩ := g.lst ha
    obtain ⟨k3, g3⟩ := g.mutL hu (rr.append (.cons hv RVs.nil))
    exact ⟨a, us, v, rfl, rfl, hu, by rw [← rr.length]; exact hl, q _ _ ⟨.non, _, k3, rfl, g3, k⟩⟩
theorem q_append (h : EQ X o ρ G fun x G1 => ∃ a xs, x = .ref a ∧ G1 a = some (.lst xs) ∧ AQ X (e :: es) ρ G1 fun ws G2 => mAppend a ws G2 K)
    (hbase : attributeBase o "append" X.env (eval o X.env) = eval o X.env := by rfl)
    (hfew : ((backTo cpos (starEach (e :: es) X.env)).all (fun x => !x.1) && (backToKw cpos (keywordEach [] X.env)).all (fun x => x.1.isSome)
      && decide ((e :: es).length + ([] : List Keyword).length + (if ([] : List Keyword).isEmpty then 0 else 1) < 30)) = true := by rfl)
    (hline : (apos.endLine == cpos.line) = true := by rfl) (hs : starEach (e :: es) X.env = (false, eval e X.env) :: starEach es X.env := by rfl) (hplain : (backTo cpos (starEach es X.env)).any (·.1) = false := by rfl) :
    EQ X (.Call (.Attribute o "append" apos) (e :: es) [] cpos) ρ G K := q_lm PySem.F.slot_list_append PySem.F.type_list_append mt_append mr_append h hbase hfew hline hs hplain
def mInsert (a : Addr) (ws : List W) (G : AH) (K : W → AH → Prop) : Prop := match ws with
  | [.int i, w] => ∃ xs, G a = some (.lst xs) ∧ xs.length < sizeLine ∧ 0 ≤ i ∧ i < 2 ^ 63 ∧ K .non (aup G a (.lst (xs.take i.toNat ++ [w] ++ xs.drop i.toNat)))
  | _ => False
theorem mr_insert {c : Ct} : MR c (fun x vs H Q => ∃ (l : Addr) (xs : List V) (i : Int) (y : V), x = .ref l ∧ vs = [.int i, y] ∧ H l = some (.lst xs) ∧ xs.length < sizeLine ∧ 0 ≤ i ∧ i < 2 ^ 63 ∧
    Q .non (upd H l (.lst (xs.take i.toNat ++ [y] ++ xs.drop i.toNat)))) mInsert := by
  intro a ws vs H G K Q r g h q
  match ws, h with
  | [.int i, w], ⟨xs, ha, hl, h0, h1, k⟩ =>
    obtain ⟨v, v', rfl, hv, hv'⟩ := rv2 r
    cases (show v = .int i from hv)
    obtain ⟨us, hu, rr⟩ := g.lst ha
    obtain ⟨k3, g3⟩ := g.mutL hu (((rr.take i.toNat).append (.cons hv' RVs.nil)).append (rr.drop i.toNat))
    exact ⟨a, us, i, v', rfl, rfl, hu, by rw [← rr.length]; exact hl, h0, h1, q _ _ ⟨.non, _, k3, rfl, g3, k⟩⟩
theorem q_insert (slot : Slot "list" "insert" "list.insert") (hty : typeOf (.builtin "list.insert") = pure (.type "method_descriptor")) (h : EQ X o ρ G fun x G1 => ∃ a xs, x = .ref a ∧ G1 a = some (.lst xs) ∧ AQ X (e :: es) ρ G1 fun ws G2 => mInsert a ws G2 K)
    (hbase : attributeBase o "insert" X.env (eval o X.env) = eval o X.env := by rfl)
    (hfew : ((backTo cpos (starEach (e :: es) X.env)).all (fun x => !x.1) && (backToKw cpos (keywordEach [] X.env)).all (fun x => x.1.isSome)
      && decide ((e :: es).length + ([] : List Keyword).length + (if ([] : List Keyword).isEmpty then 0 else 1) < 30)) = true := by rfl)
    (hline : (apos.endLine == cpos.line) = true := by rfl) (hs : starEach (e :: es) X.env = (false, eval e X.env) :: starEach es X.env := by rfl) (hplain : (backTo cpos (starEach es X.env)).any (·.1) = false := by rfl) :
    EQ X (.Call (.Attribute o "insert" apos) (e :: es) [] cpos) ρ G K := q_lm slot hty mt_insert mr_insert h hbase hfew hline hs hplain
/-- the first place of a whole number; how often it stands there -/
def mIndexI (a : Addr) (ws : List W) (G : AH) (K : W → AH → Prop) : Prop := match ws with
  | [.int i] => ∃ (ns : List Int) (j : Nat), G a = some (.lst (ns.map W.int)) ∧ ns[j]? = some i ∧ (∀ m, m < j → ns[m]? ≠ some i) ∧ K (.int j) G
  | _ => False
theorem mr_index {c : Ct} : MR c (rIndex c.K) mIndexI := by
  intro a ws vs H G K Q r g h q
  match ws, h with
  | [.int i], ⟨ns, j, ha, hj, hno, k⟩ =>
    obtain ⟨v, rfl, hv⟩ := rv1 r
    cases (show v = .int i from hv)
    obtain ⟨us, hu, rr⟩ := g.lst ha
    cases rr.ints_eq
    refine ⟨a, _, .int i, j, .int i, rfl, rfl, SqL.of hu, rfl, List.all_eq_true.mpr fun x hx => ?_, by rw [List.getElem?_map, hj]; rfl, by simp [eqV], fun m z hm hz => ?_, q _ _ (.stay (w := .int j) rfl g k)⟩
    · obtain ⟨n, _, rfl⟩ := List.mem_map.mp hx; rfl
    · rw [List.getElem?_map] at hz
      cases e : ns[m]? with
      | none => rw [e] at hz; cases hz
      | some n =>
        rw [e] at hz
        cases hz
        have := hno m hm
        rw [e] at this
        have : n ≠ i := fun z => this (by rw [z])
        simp [eqV, this]
def mCountI (a : Addr) (ws : List W) (G : AH) (K : W → AH → Prop) : Prop := match ws with
  | [.int i] => ∃ (ns : List Int), G a = some (.lst (ns.map W.int)) ∧ K (.int (ns.count i : Nat)) G
  | _ => False
theorem mr_count {c : Ct} : MR c (rCntI c.K) mCountI := by
  intro a ws vs H G K Q r g h q
  match ws, h with
  | [.int i], ⟨ns, ha, k⟩ =>
    obtain ⟨v, rfl, hv⟩ := rv1 r
    cases (show v = .int i from hv)
    obtain ⟨us, hu, rr⟩ := g.lst ha
    cases rr.ints_eq
    exact ⟨a, ns, i, rfl, rfl, SqL.of hu, q _ _ (.stay (w := .int _) rfl g k)⟩
theorem q_index (slot : Slot "list" "index" "list.index") (hty : typeOf (.builtin "list.index") = pure (.type "method_descriptor")) (h : EQ X o ρ G fun x G1 => ∃ a xs, x = .ref a ∧ G1 a = some (.lst xs) ∧ AQ X (e :: es) ρ G1 fun ws G2 => mIndexI a ws G2 K)
    (hbase : attributeBase o "index" X.env (eval o X.env) = eval o X.env := by rfl)
    (hfew : ((backTo cpos (starEach (e :: es) X.env)).all (fun x => !x.1) && (backToKw cpos (keywordEach [] X.env)).all (fun x => x.1.isSome)
      && decide ((e :: es).length + ([] : List Keyword).length + (if ([] : List Keyword).isEmpty then 0 else 1) < 30)) = true := by rfl)
    (hline : (apos.endLine == cpos.line) = true := by rfl) (hs : starEach (e :: es) X.env = (false, eval e X.env) :: starEach es X.env := by rfl) (hplain : (backTo cpos (starEach es X.env)).any (·.1) = false := by rfl) :
    EQ X (.Call (.Attribute o "index" apos) (e :: es) [] cpos) ρ G K := q_lm slot hty mt_index mr_index h hbase hfew hline hs hplain
theorem q_count (slot : Slot "list" "count" "list.count") (hty : typeOf (.builtin "list.count") = pure (.type "method_descriptor")) (h : EQ X o ρ G fun x G1 => ∃ a xs, x = .ref a ∧ G1 a = some (.lst xs) ∧ AQ X (e :: es) ρ G1 fun ws G2 => mCountI a ws G2 K)
    (hbase : attributeBase o "count" X.env (eval o X.env) = eval o X.env := by rfl)
    (hfew : ((backTo cpos (starEach (e :: es) X.env)).all (fun x => !x.1) && (backToKw cpos (keywordEach [] X.env)).all (fun x => x.1.isSome)
      && decide ((e :: es).length + ([] : List Keyword).length + (if ([] : List Keyword).isEmpty then 0 else 1) < 30)) = true := by rfl)
    (hline : (apos.endLine == cpos.line) = true := by rfl) (hs : starEach (e :: es) X.env = (false, eval e X.env) :: starEach es X.env := by rfl) (hplain : (backTo cpos (starEach es X.env)).any (·.1) = false := by rfl) :
    EQ X (.Call (.Attribute o "count" apos) (e :: es) [] cpos) ρ G K := q_lm slot hty mt_lcount mr_count h hbase hfew hline hs hplain
/-- list(range(..)) -/
theorem q_lrg2 {p2 pos2 : Pos} (hmr : X.mg "range" = none) (hml : X.mg "list" = none) (h : EQ X a ρ G fun w G1 => EQ X b ρ G1 fun w' G2 => onI w fun i => onI w' fun j => RgOk i j ∧ ∀ q, G2 q = none → K (.ref q) (aup G2 q (.lst (rngW i 1 (j - i).toNat)))) (hc : X.calm = true := by rfl)
    (hgr : Gl X "range" := by rfl) (hgl : Gl X "list" := by rfl) (na2 : starEach [a, b] X.env = (false, eval a X.env) :: starEach [b] X.env := by rfl) (nb : starEach [b] X.env = (false, eval b X.env) :: starEach [] X.env := by rfl)
    (na : starEach [.Call (.Name "range" p) [a, b] [] pos] X.env = (false, eval (.Call (.Name "range" p) [a, b] [] pos) X.env) :: starEach [] X.env := by rfl) : EQ X (.Call (.Name "list" p2) [.Call (.Name "range" p) [a, b] [] pos] [] pos2) ρ G K :=
  EQ.of (pe_listRg hc hgl hml (prg_2 hgr hmr pe_E pe_E na2 nb (by rw [nb]; rfl)) na) fun σ H rs rg => ⟨ρ, G, _, h, rs, rg, fun u H1 ⟨w, G1, k1, rx, rg1, q⟩ => ⟨ρ, G1, _, q, rs.mono k1, rg1, fun u2 H2 ⟨w2, G2, k2, ry, rg2, q⟩ => by
    cases w with
    | int i =>
      cases w2 with
      | int j =>
        cases (show u = .int i from rx)
        cases (show u2 = .int j from ry)
        refine ⟨i, j, rfl, rfl, q.1, fun q' hq => ⟨.ref q', _, (k1.trans k2).trans (Keep.new hq), rfl, rg2.newL hq ?_, q.2 q' (rg2.free hq)⟩⟩
        have go : ∀ l : List Nat, RVs H2 (l.map fun k => W.int (i + (k : Nat) * 1)) (l.map fun k => V.int (i + (k : Nat))) := by
          intro l
          induction l with
          | nil => exact RVs.nil
          | cons x l ih => exact .cons (by show V.int _ = V.int _; rw [Int.mul_one]) ih
        exact go _
      | _ => exact q.elim
    | _ => exact q.elim⟩⟩
theorem q_lrg1 {p2 pos2 : Pos} (hmr : X.mg "range" = none) (hml : X.mg "list" = none) (h : EQ X a ρ G fun w G1 => onI w fun j => RgOk 0 j ∧ ∀ q, G1 q = none → K (.ref q) (aup G1 q (.lst (rngW 0 1 j.toNat)))) (hc : X.calm = true := by rfl)
    (hgr : Gl X "range" := by rfl) (hgl : Gl X "list" := by rfl) (na2 : starEach [a] X.env = (false, eval a X.env) :: starEach [] X.env := by rfl)
    (na : starEach [.Call (.Name "range" p) [a] [] pos] X.env = (false, eval (.Call (.Name "range" p) [a] [] pos) X.env) :: starEach [] X.env := by rfl) : EQ X (.Call (.Name "list" p2) [.Call (.Name "range" p) [a] [] pos] [] pos2) ρ G K :=
  EQ.of (pe_listRg hc hgl hml (prg_1 hgr hmr pe_E na2) na) fun σ H rs rg => ⟨ρ, G, _, h, rs, rg, fun u H1 ⟨w, G1, k1, rx, rg1, q⟩ => by
    cases w with
    | int j =>
      cases (show u = .int j from rx)
      refine ⟨j, rfl, q.1, fun q' hq => ⟨.ref q', _, k1.trans (Keep.new hq), rfl, rg1.newL hq ?_, q.2 q' (rg1.free hq)⟩⟩
      have go : ∀ l : List Nat, RVs H1 (l.map fun k => W.int (0 + (k : Nat) * 1)) (l.map fun k => V.int (0 + (k : Nat))) := by
        intro l
        induction l with
        | nil => exact RVs.nil
        | cons x l ih => exact .cons (by show V.int _ = V.int _; rw [Int.mul_one]) ih
      have e : (j - 0).toNat = j.toNat := by rw [Int.sub_zero]
      show RVs H1 (rngW 0 1 j.toNat) (rgV 0 j)
      unfold rgV
      rw [e]
      exact go _
    | _ => exact q.elim⟩
end

/-! ### list comprehensions -/
/-- the block of a comprehension, wherever it starts -/
abbrev Blk (X : Cx) (scope : Scope) (φ : Cx → Prop) : Prop := ∀ (s : Shared) (H : Hp) (C : Addr) (cl : List (Str × Addr)) (fp : List Addr), φ (X.blk s H scope (compEnvC scope cl C X.env) fp)
/-- the tests of a comprehension -/
structure TsQ (X : Cx) (ifs : List Expr) (ρ : AS) (G : AH) (K : Bool → AH → Prop) : Prop where
  run : ∀ (pins : List (Addr × Obj)) (s : Shared) (σ : St) (H : Hp), Inv X pins σ H s → RS H σ ρ → RG (cc X) H G →
    wpAny (model X.prog X.w) X.A (forIn ifs true fun c r => if r = true then do let ok ← isTrue c X.env (eval c X.env); pure (ForInStep.yield ok) else pure (ForInStep.yield r)) (TP X pins σ (CB (cc X) H K)) X.xe s
section
variable {X : Cx} {elt tg iter c : Expr} {ifs : List Expr} {scope : Scope} {own : List (Str × Nat)} {pos : Pos} {ρ : AS} {G : AH} {K : W → AH → Prop}
theorem ts_nil {K : Bool → AH → Prop} (k : K true G) : TsQ X [] ρ G K := ⟨fun pins s σ H I rs rg => pts_nil.run pins s σ H _ I ⟨G, Keep.refl, rg, k⟩⟩
theorem ts_one {K : Bool → AH → Prop} (h : BQ X c ρ G K) : TsQ X [c] ρ G K := ⟨fun pins s σ H I rs rg => (pts_one pt_T).run pins s σ H _ I ⟨ρ, G, K, h, rs, rg, fun b H' q => q⟩⟩
end
/-! the names of a comprehension forgotten -/
theorem wipe_get (σ : St) : ∀ (vs : List Nat) (j : Nat), (L2.wipe σ vs)[j]? = if j ∈ vs then (σ[j]?).map (fun _ => none) else σ[j]?
  | [], j => by simp [L2.wipe]
  | v :: vs, j => by
    unfold L2.wipe
    have ih := wipe_get σ vs j
    by_cases e : v = j
    · subst e
      rw [if_pos List.mem_cons_self]
      by_cases l : v < (L2.wipe σ vs).length
      · rw [List.getElem?_set_self l]
        have l' : v < σ.length := by rw [wipe_length] at l; exact l
        simp [l']
      · have l' : ¬ v < σ.length := by rw [wipe_length] at l; exact l
        rw [List.getElem?_eq_none (by rw [List.length_set]; omega), List.getElem?_eq_none (by omega)]
        rfl
    · rw [List.getElem?_set_ne e, ih]
      by_cases m : j ∈ vs
      · rw [if_pos m, if_pos (List.mem_cons_of_mem _ m)]
      · rw [if_neg m, if_neg (by simp only [List.mem_cons, not_or]; exact ⟨fun q => e q.symm, m⟩)]
theorem wipe_set {σ : St} {vs : List Nat} {i : Nat} {x : Option V} (h : i ∈ vs) : L2.wipe (σ.set i x) vs = L2.wipe σ vs := by
  refine List.ext_getElem? fun j => ?_
  rw [wipe_get, wipe_get]
  by_cases m : j ∈ vs
  · rw [if_pos m, if_pos m]
    by_cases e : i = j
    · subst e
      by_cases l : i < σ.length
      · rw [List.getElem?_set_self l]; simp [l]
      · rw [List.getElem?_eq_none (by rw [List.length_set]; omega), List.getElem?_eq_none (by omega)]
    · rw [List.getElem?_set_ne e]
  · rw [if_neg m, if_neg m]
    rw [List.getElem?_set_ne (fun q => m (by rw [← q]; exact h))]
theorem wipe_wipe (σ : St) (vs : List Nat) : L2.wipe (L2.wipe σ vs) vs = L2.wipe σ vs := by
  refine List.ext_getElem? fun j => ?_
  rw [wipe_get, wipe_get]
  by_cases m : j ∈ vs
  · rw [if_pos m]
    cases σ[j]? <;> simp [m]
  · rw [if_neg m]
/-- a target of a comprehension: its names are among vs -/
structure NQ (X : Cx) (tg : Expr) (vs : List Nat) (w : W) (ρ : AS) (G : AH) (K : AS → AH → Prop) : Prop where
  run : ∀ (pins : List (Addr × Obj)) (s : Shared) (σ : St) (H : Hp) (v : V) (u : Value), Inv X pins σ H s → RS H σ ρ → RG (cc X) H G → RV H w v → RelV v u →
    wpAny (model X.prog X.w) X.A (assign tg X.env u) (fun _ s' => ∃ σ' H', Inv X pins σ' H' s' ∧ L2.wipe σ' vs = L2.wipe σ vs ∧ CS (cc X) H K σ' H') X.xe s
structure NsQ (X : Cx) (ts : List Expr) (vs : List Nat) (ws : List W) (ρ : AS) (G : AH) (K : AS → AH → Prop) : Prop where
  run : ∀ (pins : List (Addr × Obj)) (s : Shared) (σ : St) (H : Hp) (vals : List V) (us : List Value), Inv X pins σ H s → RS H σ ρ → RG (cc X) H G → RVs H ws vals → Vals vals us →
    wpAny (model X.prog X.w) X.A (assignInOrder ((assignEach ts X.env).map (·.2)) us) (fun _ s' => ∃ σ' H', Inv X pins σ' H' s' ∧ L2.wipe σ' vs = L2.wipe σ vs ∧ CS (cc X) H K σ' H') X.xe s
section
variable {X : Cx} {pos : Pos} {vs : List Nat} {ρ : AS} {G : AH} {K : AS → AH → Prop}
theorem n_name {x : Str} {i : Nat} {w : W} (hN : X.N.Nodup) (k : K (ρ.set i (some w)) G) (hi : X.N[i]? = some x := by rfl) (hv : i ∈ vs := by decide) (hx : Loc X.env.scope x := by first | exact .inl rfl | exact .inr rfl)
    (hf : X.fn x = true ∨ X.env.scope.names.lookup x = some .local := by first | exact .inl rfl | exact .inr rfl) : NQ X (.Name x pos) vs w ρ G K :=
  ⟨fun pins s σ H v u I rs rg rv r => (pg_name hN hi hx hf).run pins s σ H v u (fun σ' H' => L2.wipe σ' vs = L2.wipe σ vs ∧ CS (cc X) H K σ' H') I r ⟨wipe_set hv, _, G, Keep.refl, rs.set i rv, rg, k⟩⟩
theorem ns_nil (k : K ρ G) : NsQ X [] vs [] ρ G K := ⟨fun pins s σ H v u I rs rg rv r => pgs_nil.run pins s σ H v u (fun σ' H' => L2.wipe σ' vs = L2.wipe σ vs ∧ CS (cc X) H K σ' H') I r ⟨rv, rfl, ρ, G, Keep.refl, rs, rg, k⟩⟩
theorem ns_cons {e : Expr} {es : List Expr} {w : W} {ws : List W} (h : NQ X e vs w ρ G fun ρ1 G1 => NsQ X es vs ws ρ1 G1 K)
    (hs : (assignEach (e :: es) X.env).map (·.2) = assign e X.env :: (assignEach es X.env).map (·.2) := by rfl) : NsQ X (e :: es) vs (w :: ws) ρ G K :=
  ⟨fun pins s σ H v u I rs rg ⟨v1, vr, e1, r1, r2⟩ r => by
    subst e1
    cases r with
    | cons r rr =>
      rw [hs]
      refine assignInOrder_cons (thn (h.run pins s σ H _ _ I rs rg r1 r) fun _ s1 ⟨σ1, H1, I1, e1, ρ1, G1, k1, rs1, rg1, q1⟩ => ?_)
      exact thn (q1.run pins s1 σ1 H1 _ _ I1 rs1 rg1 (r2.mono k1) rr) fun _ s2 ⟨σ2, H2, I2, e2, q2⟩ => ⟨σ2, H2, I2, e2.trans e1, q2.pre k1⟩⟩
theorem n_tup {es : List Expr} {kk n : Nat} {ws : List W} (hl : ws.length = n) (h : NsQ X es vs ws ρ G K) (hc : X.calm = true := by rfl)
    (hn : (assignEach es X.env).length = n := by rfl) (hst : (assignEach es X.env).findIdx? (·.1) = none := by rfl) : NQ X (.Tuple es kk pos) vs (.tup ws) ρ G K :=
  ⟨fun pins s σ H v u I rs rg ⟨a, vals, e, ha, r⟩ rv => by
    subst e
    cases rv
    obtain ⟨its, rr, ht, hz⟩ := I.tuple (SqT.of ha)
    refine assign_Tuple_tuple (I.ok.hd hc) ht (by simp [hn, ← hl, r.length, rr.length]) hst fun h' hx => ?_
    have I1 : Inv X pins σ H { s with heap := h' } := I.kept (t' := s.toks) fun b o e => hx b o (Nat.ne_of_lt (Heap.lt_size e)) e
    exact h.run pins _ σ H vals _ I1 rs rg r (by simpa using rr)⟩
end
section
variable {X : Cx} {elt tg iter c : Expr} {ifs : List Expr} {scope : Scope} {own : List (Str × Nat)} {pos : Pos} {ρ : AS} {G : AH} {K : W → AH → Prop}
/-- what the turns of a comprehension ask -/
structure LcK (X : Cx) (scope : Scope) (tg elt : Expr) (ifs : List Expr) (vs : List Nat) (ρ : AS) (K : W → AH → Prop) (xs : List W) (okk : AH → Prop) (G1 : AH) : Prop where
  h : ∀ D, G1 D = none → ∃ P : Nat → AH → Prop, P 0 (aup G1 D (.lst [])) ∧ (∀ i G', i ≤ xs.length → P i G' → okk G') ∧
    (∀ i x G', xs[i]? = some x → P i G' → Blk X scope fun Y => NQ Y tg vs x (wipeW ρ vs) G' fun ρ2 G2 => Blk X scope fun Y => TsQ Y ifs ρ2 G2 fun b G3 => ifB b
      (Blk X scope fun Y => EQ Y elt ρ2 G3 fun y G4 => ∃ acc, G4 D = some (.lst acc) ∧ acc.length < sizeLine ∧ P (i + 1) (aup G4 D (.lst (acc ++ [y])))) (P (i + 1) G3)) ∧ ∀ G', P xs.length G' → K (.ref D) G'
def gB (X : Cx) (scope : Scope) (tg : Expr) (vs : List Nat) : TG := fun v σ H Q => ∃ w ρ G K, (Blk X scope fun Y => NQ Y tg vs w ρ G K) ∧ RS H σ ρ ∧ RG (cc X) H G ∧ RV H w v ∧ ∀ σ' H', L2.wipe σ' vs = L2.wipe σ vs → CS (cc X) H K σ' H' → Q σ' H'
def tsB (X : Cx) (scope : Scope) (ifs : List Expr) : TT := fun σ H Q => ∃ ρ G K, (Blk X scope fun Y => TsQ Y ifs ρ G K) ∧ RS H σ ρ ∧ RG (cc X) H G ∧ ∀ b H', CB (cc X) H K b H' → Q b H'
def tB' (X : Cx) (scope : Scope) (e : Expr) : TE := fun σ H Q => ∃ ρ G K, (Blk X scope fun Y => EQ Y e ρ G K) ∧ RS H σ ρ ∧ RG (cc X) H G ∧ ∀ b H', CW (cc X) H K b H' → Q b H'
theorem lc_read {σ : St} {H H1 : Hp} {J : It} {Q : VK} {G1 : AH} {xs : List W} {okk : AH → Prop} {vs : List Nat} (rs : RS H1 σ ρ) (rg1 : RG (cc X) H1 G1) (io : IterOk (cc X) J H1 xs okk) (k : LcK X scope tg elt ifs vs ρ K xs okk G1) (hQ : ∀ v H', CW (cc X) H1 K v H' → Q v H') :
    ∀ D, H1 D = none → ∃ W : Nat → Nat → Hp → Prop, (∃ m, W 0 m (upd H1 D (.lst []))) ∧ ∀ i m H, W i m H →
      (J.stop i H ∧ Q (.ref D) H) ∨ (J.go i H ∧ ∃ Nx : Hp → Prop, (∀ H', Nx H' → ∃ m', m' < m ∧ W (i + 1) m' H') ∧ ∀ x H', J.yld i H x H' → gB X scope tg vs x (L2.wipe σ vs) H' fun σ2 H2 => L2.wipe σ2 vs = L2.wipe σ vs ∧ tsB X scope ifs σ2 H2 fun b H3 =>
        if b = true then tB' X scope elt σ2 H3 fun y H4 => ∃ acc, H4 D = some (.lst acc) ∧ acc.length < sizeLine ∧ Nx (upd H4 D (.lst (acc ++ [y]))) else Nx H3) := by
  intro D hD
  obtain ⟨P, p0, pok, turn, fin⟩ := k.h D (rg1.free hD)
  refine ⟨fun i m H' => ∃ G', m = xs.length - i ∧ i ≤ xs.length ∧ Keep H1 H' ∧ RG (cc X) H' G' ∧ P i G', ⟨_, _, rfl, Nat.zero_le _, Keep.new hD, rg1.newL hD RVs.nil, p0⟩, ?_⟩
  rintro i m H2 ⟨G2, rfl, hi, k2, rg2, p2⟩
  by_cases hlt : i < xs.length
  · refine .inr ⟨io.go i H2 G2 k2 rg2 (pok i G2 hi p2) hlt, fun H' => ∃ G', Keep H1 H' ∧ RG (cc X) H' G' ∧ P (i + 1) G', fun H' ⟨G', k, rg', p'⟩ => ⟨xs.length - (i + 1), by omega, G', rfl, hlt, k, rg', p'⟩, fun x H' y => ?_⟩
    obtain ⟨k3, rg3, w, hw, rw'⟩ := io.yld i H2 G2 x H' k2 rg2 (pok i G2 hi p2) hlt y
    refine ⟨w, _, G2, _, turn i w G2 hw p2, (rs.mono (k2.trans k3)).wipe vs, rg3, rw', ?_⟩
    rintro σ4 H4 e4 ⟨ρ4, G4, k4, rs4, rg4, q4⟩
    refine ⟨e4.trans (wipe_wipe σ vs), ρ4, G4, _, q4, rs4, rg4, ?_⟩
    rintro b H5 ⟨G5, k5, rg5, q5⟩
    have kk : Keep H1 H5 := ((k2.trans k3).trans k4).trans k5
    cases b with
    | false => exact ⟨G5, kk, rg5, q5.h⟩
    | true =>
      refine ⟨ρ4, G5, _, q5.h, rs4.mono k5, rg5, ?_⟩
      rintro y H6 ⟨wy, G6, k6, ry, rg6, acc, ha, hl, p6⟩
      obtain ⟨vs6, h6, r6⟩ := rg6.lst ha
      obtain ⟨k7, rg7⟩ := rg6.mutL h6 (r6.append (.cons ry RVs.nil))
      exact ⟨vs6, h6, by rw [← r6.length]; exact hl, _, (kk.trans k6).trans k7, rg7, p6⟩
  · have e : i = xs.length := by omega
    subst e
    exact .inl ⟨io.stop _ H2 G2 k2 rg2 (pok _ G2 hi p2) (Nat.le_refl _), hQ _ _ ⟨.ref D, G2, k2, rfl, rg2, fin G2 p2⟩⟩
theorem q_lc (hN : X.N.Nodup) (ok : BlkOk X.N X.env.scope scope own) (h : IQ X tg iter ρ G (LcK X scope tg elt ifs (own.map (·.2)) ρ K)) (hc : X.calm = true := by rfl) (hs : ∀ x, foldedSetIterable iter X.env x = pure x := by intro _; rfl) :
    EQ X (.ListComp elt [⟨tg, iter, ifs, 0⟩] scope pos) ρ G K :=
  EQ.of (pe_lc (g := gB X scope tg (own.map (·.2))) (tt := tsB X scope ifs) (te := tB' X scope elt) hc hN pi_I ok
    (fun s0 H0 C cl fp => ⟨fun pins s σ H v u Q I r ⟨w, ρ, G, K, h, rs, rg, rv, k⟩ => thn ((h s0 H0 C cl fp).run pins s σ H v u I rs rg rv r) fun _ s' ⟨σ', H', I', e, q⟩ => ⟨σ', H', I', k σ' H' e q⟩⟩)
    (fun s0 H0 C cl fp => ⟨fun pins s σ H Q I ⟨ρ, G, K, h, rs, rg, k⟩ => thn ((h s0 H0 C cl fp).run pins s σ H I rs rg) fun b s' ⟨H', I', q⟩ => ⟨H', I', k b H' q⟩⟩)
    (fun s0 H0 C cl fp => ⟨fun pins s σ H Q I ⟨ρ, G, K, h, rs, rg, k⟩ => thn ((h s0 H0 C cl fp).run pins s σ H I rs rg) fun u s' ⟨v, H', I', r, q⟩ => ⟨v, H', I', r, k v H' q⟩⟩) hs)
    fun σ H rs rg => ⟨ρ, G, _, h, rs, rg, fun J H1 ⟨xs, okk, G1, k1, rg1, io, q⟩ => lc_read (H := H) (rs.mono k1) rg1 io q fun v H' z => z.pre k1⟩
/-- name = [..] -/
theorem s_setLc {A : AEnds} {i : Nat} {y : Str} {py spos : Pos} (hN : X.N.Nodup) (ok : BlkOk X.N X.env.scope scope own) (h : IQ X tg iter ρ G (LcK X scope tg elt ifs (own.map (·.2)) ρ fun w G1 => A.nx (ρ.set i (some w)) G1)) (hy : X.N[i]? = some y := by rfl) (hyl : X.env.scope.names.lookup y = some .local := by rfl)
    (hsw : swapsWith (.ListComp elt [⟨tg, iter, ifs, 0⟩] scope pos) (some (.Name y py)) spos.line X.env = pure true := by exact sw_true rfl rfl rfl (by decide +kernel)) (hc : X.calm = true := by rfl) (hs : ∀ x, foldedSetIterable iter X.env x = pure x := by intro _; rfl) :
    S1 X (.Assign [.Name y py] (.ListComp elt [⟨tg, iter, ifs, 0⟩] scope pos) spos) ρ G A :=
  S1.of (ps_setLc (g := gB X scope tg (own.map (·.2))) (tt := tsB X scope ifs) (te := tB' X scope elt) hc hN hy hyl hsw pi_I ok
    (fun s0 H0 C cl fp => ⟨fun pins s σ H v u Q I r ⟨w, ρ, G, K, h, rs, rg, rv, k⟩ => thn ((h s0 H0 C cl fp).run pins s σ H v u I rs rg rv r) fun _ s' ⟨σ', H', I', e, q⟩ => ⟨σ', H', I', k σ' H' e q⟩⟩)
    (fun s0 H0 C cl fp => ⟨fun pins s σ H Q I ⟨ρ, G, K, h, rs, rg, k⟩ => thn ((h s0 H0 C cl fp).run pins s σ H I rs rg) fun b s' ⟨H', I', q⟩ => ⟨H', I', k b H' q⟩⟩)
    (fun s0 H0 C cl fp => ⟨fun pins s σ H Q I ⟨ρ, G, K, h, rs, rg, k⟩ => thn ((h s0 H0 C cl fp).run pins s σ H I rs rg) fun u s' ⟨v, H', I', r, q⟩ => ⟨v, H', I', r, k v H' q⟩⟩) hs)
    fun σ H rs rg => ⟨ρ, G, _, h, rs, rg, fun J H1 ⟨xs, okk, G1, k1, rg1, io, q⟩ => lc_read (H := H) (Q := fun x H1 => gName i x σ H1 (CD (cc X) H A).nx) (rs.mono k1) rg1 io q fun v H' ⟨w, G', k, r, g, z⟩ => ⟨_, G', k1.trans k, ((rs.mono k1).mono k).set i r, g, z⟩⟩
/-- one name, no tests, each element a value and nothing else -/
theorem lk_map1 {y : Str} {i : Nat} {p : Pos} {f : W → W} {xs : List W} {okk : AH → Prop} {G1 : AH} (hN : X.N.Nodup) (hl : xs.length ≤ 100000) (ho : ∀ D ws, G1 D = none → okk (aup G1 D (.lst ws)))
    (turn : ∀ x, x ∈ xs → ∀ D ws, G1 D = none → Blk X scope fun Y => EQ Y elt (ρ.set i (some x)) (aup G1 D (.lst ws)) fun v G' => v = f x ∧ G' = aup G1 D (.lst ws)) (k : ∀ D, G1 D = none → K (.ref D) (aup G1 D (.lst (xs.map f))))
    (hi : X.N[i]? = some y := by rfl) (hx : Blk X scope fun Y => Loc Y.env.scope y := by exact fun _ _ _ _ _ => .inl rfl) (hf : Blk X scope fun Y => Y.fn y = true ∨ Y.env.scope.names.lookup y = some .local := by exact fun _ _ _ _ _ => .inr rfl) :
    LcK X scope (.Name y p) elt [] [i] ρ K xs okk G1 := ⟨fun D hD => by
  refine ⟨fun n G' => G' = aup G1 D (.lst ((xs.take n).map f)), rfl, fun n G' _ e => by subst e; exact ho D _ hD, fun n x G' hx' e => ?_, fun G' e => by subst e; rw [List.take_length]; exact k D hD⟩
  subst e
  intro s0 H0 C cl fp
  refine n_name hN ?_ hi (by simp) (hx s0 H0 C cl fp) (hf s0 H0 C cl fp)
  intro s0 H0 C cl fp
  refine ts_nil (ifT ?_)
  intro s0 H0 C cl fp
  have e : (wipeW ρ [i]).set i (some x) = ρ.set i (some x) := by
    show (ρ.set i none).set i (some x) = _
    rw [List.set_set]
  rw [e]
  refine (turn x (List.mem_of_getElem? hx') D _ hD s0 H0 C cl fp).mono fun v G' ⟨e1, e2⟩ => ?_
  subst e1 e2
  refine ⟨_, aup_same, ?_, ?_⟩
  · rw [List.length_map, List.length_take]
    exact Nat.lt_of_le_of_lt (Nat.le_trans (Nat.min_le_right _ _) hl) (by decide)
  · show aup _ D _ = aup G1 D (.lst ((xs.take (n + 1)).map f))
    rw [aup_aup, List.take_succ, hx', Option.toList_some, List.map_append]
    rfl⟩
end
/-- .. over the values of a row of things -/
theorem lk_mapZ {X : Cx} {elt : Expr} {scope : Scope} {ρ : AS} {K : W → AH → Prop} {ι : Type} {y : Str} {i : Nat} {p : Pos} {zs : List ι} (g h : ι → W) {okk : AH → Prop} {G1 : AH} (hN : X.N.Nodup) (hl : zs.length ≤ 100000) (ho : ∀ D ws, G1 D = none → okk (aup G1 D (.lst ws)))
    (turn : ∀ z, z ∈ zs → ∀ D ws, G1 D = none → Blk X scope fun Y => EQ Y elt (ρ.set i (some (g z))) (aup G1 D (.lst ws)) fun v G' => v = h z ∧ G' = aup G1 D (.lst ws)) (k : ∀ D, G1 D = none → K (.ref D) (aup G1 D (.lst (zs.map h))))
    (hi : X.N[i]? = some y := by rfl) (hx : Blk X scope fun Y => Loc Y.env.scope y := by exact fun _ _ _ _ _ => .inl rfl) (hf : Blk X scope fun Y => Y.fn y = true ∨ Y.env.scope.names.lookup y = some .local := by exact fun _ _ _ _ _ => .inr rfl) :
    LcK X scope (.Name y p) elt [] [i] ρ K (zs.map g) okk G1 := ⟨fun D hD => by
  refine ⟨fun n G' => G' = aup G1 D (.lst ((zs.take n).map h)), rfl, fun n G' _ e => by subst e; exact ho D _ hD, fun n x G' hx' e => ?_, fun G' e => by subst e; rw [List.length_map, List.take_length]; exact k D hD⟩
  subst e
  obtain ⟨z, hz, rfl⟩ : ∃ z, zs[n]? = some z ∧ g z = x := by
    rw [List.getElem?_map] at hx'
    exact Option.map_eq_some_iff.mp hx'
  intro s0 H0 C cl fp
  refine n_name hN ?_ hi (by simp) (hx s0 H0 C cl fp) (hf s0 H0 C cl fp)
  intro s0 H0 C cl fp
  refine ts_nil (ifT ?_)
  intro s0 H0 C cl fp
  have e : (wipeW ρ [i]).set i (some (g z)) = ρ.set i (some (g z)) := by
    show (ρ.set i none).set i (some (g z)) = _
    rw [List.set_set]
  rw [e]
  refine (turn z (List.mem_of_getElem? hz) D _ hD s0 H0 C cl fp).mono fun v G' ⟨e1, e2⟩ => ?_
  subst e1 e2
  refine ⟨_, aup_same, ?_, ?_⟩
  · rw [List.length_map, List.length_take]
    exact Nat.lt_of_le_of_lt (Nat.le_trans (Nat.min_le_right _ _) hl) (by decide)
  · show aup _ D _ = aup G1 D (.lst ((zs.take (n + 1)).map h))
    rw [aup_aup, List.take_succ, hz, Option.toList_some, List.map_append]
    rfl⟩
section
variable {X : Cx} {pos : Pos} {ρ : AS} {G : AH}
/-- the name in the i-th slot -/
theorem qv (i : Nat) {K : W → AH → Prop} {x : Str} {w : W} (hρ : ρ[i]? = some (some w)) (k : K w G) (hN : X.N[i]? = some x := by rfl) (hv : Vis X.env.scope x := by first | exact Or.inl rfl | exact Or.inr (Or.inl rfl) | exact Or.inr (Or.inr rfl))
    (hd : (x == ("__debug__" : Str)) = false := by decide) (hcd : (x == ("__classdict__" : Str)) = false := by decide) : EQ X (.Name x pos) ρ G K := q_var hρ k hN hv hd hcd
end
theorem u65 {k : Nat} {A : Around} (r : Room k A) : A.units + 65 < cLine := by have := r.un; omega
theorem u64 {k : Nat} {A : Around} (r : Room k A) : A.units + 64 < cLine := r.units
theorem u9 {k : Nat} {A : Around} (r : Room k A) : A.units + 9 < cLine := by have := r.un; omega
end AL
namespace AL
open PySem PySem.Spec L2
open PyProof.Rows hiding St
/-! ### the script: read alone -/
def Scr (c : Ct) (G : AH) (a : Addr) (ns : List Int) : Prop := G a = some (.fro (ns.map W.int)) ∨ ∀ H : Hp, SqL c.K H a (ns.map V.int)
theorem Scr.sq {c : Ct} {H : Hp} {G : AH} {a : Addr} {ns : List Int} (g : RG c H G) (h : Scr c G a ns) : SqL c.K H a (ns.map V.int) := by
  rcases h with h | h
  · obtain ⟨vs, h1, h2⟩ := g a _ h
    cases h2.ints_eq
    exact .inl h1
  · exact h H
theorem Scr.sub {c : Ct} {G G' : AH} {a : Addr} {ns : List Int} (h : Scr c G a ns) (s : Sub G G') : Scr c G' a ns := h.elim (fun h => .inl (s _ _ h)) .inr
section
variable {X : Cx} {a b d e : Expr} {pos : Pos} {ρ : AS} {G : AH} {K : W → AH → Prop} {A : AEnds}
def fSlS (c : Ct) (x : W) (lo hi : Option Int) (G : AH) (K : W → AH → Prop) : Prop := match x with
  | .ref a => ∃ ns, Scr c G a ns ∧ ∀ p, G p = none → K (.ref p) (aup G p (.lst ((cutW (ns.map W.int) lo hi))))
  | _ => False
theorem q_slS {lo hi : Option Expr} {p2 : Pos} (h : EQ X a ρ G fun x G1 => OQ X lo ρ G1 fun l G2 => OQ X hi ρ G2 fun u G3 => fSlS (cc X) x l u G3 K) : EQ X (.Subscript a (.Slice lo hi none p2) pos) ρ G K :=
  EQ.of (pe_slice sl_list pe_E po_O po_O) fun σ H rs rg => ⟨ρ, G, _, h, rs, rg, fun u H1 ⟨x, G1, k1, rx, rg1, hb⟩ => ⟨ρ, G1, _, hb, rs.mono k1, rg1, fun l H2 ⟨G2, k2, rg2, hr⟩ => ⟨ρ, G2, _, hr, rs.mono (k1.trans k2), rg2, fun r H3 ⟨G3, k3, rg3, hq⟩ => by
    have rx3 := rx.mono (k2.trans k3)
    cases x with
    | ref a =>
      obtain ⟨ns, hs, kk⟩ := hq
      cases (show u = .ref a from rx3)
      exact ⟨a, _, rfl, hs.sq rg3, fun p hp => ⟨.ref p, _, ((k1.trans k2).trans k3).trans (Keep.new hp), rfl, rg3.newL hp ((RVs.ints ns).cut l r), kk p (rg3.free hp)⟩⟩
    | _ => exact hq.elim⟩⟩⟩
theorem cutW_map {α : Type} (f : α → W) (xs : List α) (lo hi : Option Int) : cutW (xs.map f) lo hi = ((xs.drop (HT.sIx xs.length 0 lo)).take (HT.sIx xs.length xs.length hi - HT.sIx xs.length 0 lo)).map f := by
  unfold cutW
  rw [List.length_map, ← List.map_drop, ← List.map_take]
/-- len of the script -/
theorem q_lenS {p : Pos} {es : List Expr} (hm : X.mg "len" = none) (h : AQ X (e :: es) ρ G fun ws G1 => ∃ a ns, ws = [.ref a] ∧ Scr (cc X) G1 a ns ∧ K (.int ns.length) G1) (hg : Gl X "len" := by rfl)
    (he : starEach (e :: es) X.env = (false, eval e X.env) :: starEach es X.env := by rfl) (hpl : (backTo pos (starEach es X.env)).any (·.1) = false := by rfl) : EQ X (.Call (.Name "len" p) (e :: es) [] pos) ρ G K :=
  q_callB (R := fun ws G1 K => ∃ a ns, ws = [.ref a] ∧ Scr (cc X) G1 a ns ∧ K (.int ns.length) G1) call_len (fun ws vs H G K Q r g ⟨a, ns, e, hs, k⟩ q => by
    subst e
    obtain ⟨v, rfl, hv⟩ := rv1 r
    cases (show v = .ref a from hv)
    exact ⟨_, ns.length, rfl, .inl ⟨_, hs.sq g, by rw [List.length_map]⟩, q _ _ (.stay (w := .int _) rfl g k)⟩) hm PySem.boot_len h hg (by decide) (by decide) he hpl
/-- a, b, c = .. -/
theorem s_par3 {i j l : Nat} {x y z : Str} {px py pz pt : Pos} {kt k2 : Nat} {pt2 : Pos} (hN : X.N.Nodup) (h : EQ X a ρ G fun w G1 => EQ X b ρ G1 fun w' G2 => EQ X d ρ G2 fun w3 G3 => A.nx (((ρ.set i (some w)).set j (some w')).set l (some w3)) G3)
    (hw : swappedStores [.Tuple [.Name x px, .Name y py, .Name z pz] kt pt] (.Tuple [a, b, d] k2 pt2) X.env = pure (some [x, y, z]) := by rfl) (hs1 : starEach [d] X.env = (false, eval d X.env) :: starEach [] X.env := by rfl) (hs2 : starEach [b, d] X.env = (false, eval b X.env) :: starEach [d] X.env := by rfl) (hs3 : starEach [a, b, d] X.env = (false, eval a X.env) :: starEach [b, d] X.env := by rfl) (hc : X.calm = true := by rfl) (hi : X.N[i]? = some x := by rfl) (hj : X.N[j]? = some y := by rfl) (hl : X.N[l]? = some z := by rfl) (hij : i ≠ j := by decide) (hil : i ≠ l := by decide) (hjl : j ≠ l := by decide)
    (hx : X.env.scope.names.lookup x = some .local := by rfl) (hy : X.env.scope.names.lookup y = some .local := by rfl) (hz : X.env.scope.names.lookup z = some .local := by rfl)
    (hs : swapsWithSole [.Tuple [.Name x px, .Name y py, .Name z pz] kt pt] (.Tuple [a, b, d] k2 pt2) pos.line X.env = pure false := by rfl) : S1 X (.Assign [.Tuple [.Name x px, .Name y py, .Name z pz] kt pt] (.Tuple [a, b, d] k2 pt2) pos) ρ G A :=
  S1.of (ps_par3 hc hN hi hj hl hij hil hjl hx hy hz (pa_cons pe_E (pa_cons pe_E (pa_cons pe_E pa_nil hs1) hs2) hs3) hw hs) fun σ H rs rg => ⟨ρ, G, _, h, rs, rg, fun u H1 ⟨w, G1, k1, rx, rg1, q⟩ => ⟨ρ, G1, _, q, rs.mono k1, rg1, fun v H2 ⟨w', G2, k2, ry, rg2, q2⟩ => ⟨ρ, G2, _, q2, rs.mono (k1.trans k2), rg2, fun v3 H3 ⟨w3, G3, k3, rz, rg3, q3⟩ =>
    ⟨u, v, v3, rfl, _, G3, (k1.trans k2).trans k3, (((rs.mono ((k1.trans k2).trans k3)).set i (rx.mono (k2.trans k3))).set j (ry.mono k3)).set l rz, rg3, q3⟩⟩⟩⟩
end
/-! ### data told -/
theorem DWs.ints {G : AH} : ∀ ns : List Int, DWs G (ns.map W.int) (ns.map PyData.int)
  | [] => .nil
  | n :: ns => .cons (.int n) (DWs.ints ns)
theorem lay_ints : ∀ ns : List Int, PyData.canLayAll0 (ns.map PyData.int) = true
  | [] => rfl
  | n :: ns => by
    have := lay_ints ns
    show (_ && _) = true
    rw [this]; rfl
theorem dep_ints : ∀ ns : List Int, PyData.depthAll (ns.map PyData.int) ≤ 0
  | [] => Nat.le_refl _
  | n :: ns => by
    have := dep_ints ns
    show max _ _ ≤ 0
    exact Nat.max_le.mpr ⟨Nat.le_refl _, this⟩
theorem eqv_ints : ∀ ns ms : List Int, PyData.eqvAll (ns.map PyData.int) (ms.map PyData.int) = decide (ns = ms)
  | [], [] => rfl
  | n :: ns, m :: ms => by
    show (PyData.eqv (.int n) (.int m) && PyData.eqvAll (ns.map PyData.int) (ms.map PyData.int)) = _
    rw [eqv_ints ns ms]
    show ((n == m) && _) = _
    by_cases e : n = m
    · subst e; simp
    · simp [e]
  | [], _ :: _ => rfl
  | _ :: _, [] => rfl
theorem shaped_list {ds : List PyData} (h : PyData.canLayAll0 ds = true) (d : PyData.depthAll ds ≤ 60) : SeqAt.shaped (.list ds) = true := by
  unfold SeqAt.shaped
  rw [show (PyData.list ds).canLay0 = true from h, Bool.true_and]
  refine decide_eq_true ?_
  show PyData.depthAll ds + 1 ≤ 64
  omega
theorem shaped_tuple {ds : List PyData} (h : PyData.canLayAll0 ds = true) (d : PyData.depthAll ds ≤ 60) : SeqAt.shaped (.tuple ds) = true := by
  unfold SeqAt.shaped
  rw [show (PyData.tuple ds).canLay0 = true from h, Bool.true_and]
  refine decide_eq_true ?_
  show PyData.depthAll ds + 1 ≤ 64
  omega
theorem shaped_ints (ns : List Int) : SeqAt.shaped (.list (ns.map PyData.int)) = true := shaped_list (lay_ints ns) (Nat.le_trans (dep_ints ns) (by decide))
/-- lists of whole numbers compared -/
theorem fEq_ints {G : AH} {K : W → AH → Prop} {a b : Addr} {ns ms : List Int} {neg : Bool} (ha : G a = some (.lst (ns.map W.int))) (hb : G b = some (.lst (ms.map W.int))) (k : K (.bl (if neg then !decide (ns = ms) else decide (ns = ms))) G) : fEqB neg (.ref a) (.ref b) G K :=
  ⟨.list (ns.map PyData.int), .list (ms.map PyData.int), .lst ha (DWs.ints ns), .lst hb (DWs.ints ms), shaped_ints ns, shaped_ints ms, by
    show K (.bl (if neg = true then !PyData.eqvAll (ns.map PyData.int) (ms.map PyData.int) else PyData.eqvAll (ns.map PyData.int) (ms.map PyData.int))) G
    rw [eqv_ints]; exact k⟩
/-- a whole number in a list of them -/
theorem fIn_ints {G : AH} {K : W → AH → Prop} {a : Addr} {ns : List Int} {i : Int} {neg : Bool} (ha : G a = some (.lst (ns.map W.int))) (k : K (.bl (if neg then !decide (i ∈ ns) else decide (i ∈ ns))) G) : fInD neg (.int i) (.ref a) G K := by
  refine ⟨.int i, ns.map PyData.int, .int i, .lst ha (DWs.ints ns), rfl, shaped_ints ns, ?_⟩
  have : ((ns.map PyData.int).any fun z => PyData.eqv z (.int i)) = decide (i ∈ ns) := by
    rw [List.any_map]
    clear ha k
    induction ns with
    | nil => rfl
    | cons n ns ih =>
      rw [List.any_cons, ih]
      show ((n == i) || _) = _
      by_cases e : n = i
      · subst e; simp
      · have e' : ¬ i = n := fun z => e z.symm
        simp [e, e']
  rw [this]; exact k
end AL
namespace SW
open PySem
/-- a term -/
inductive Tm where
  | num (n : Int) | name (x : Str) | of (w : Str) (ks : List Nat)
  deriving DecidableEq
/-- a class's sameness under leads -/
def mk (ls : List Nat) : Tm → Tm
  | .num n => .num n
  | .name x => .name x
  | .of w ks => .of w (ks.map fun k => ls.getD k 0)
def uni (ls : List Nat) (i j : Nat) : List Nat :=
  if ls.getD i 0 = ls.getD j 0 then ls else ls.map fun x => if x = max (ls.getD i 0) (ls.getD j 0) then min (ls.getD i 0) (ls.getD j 0) else x
def lkT (s : List (Tm × Nat)) (m : Tm) : Option Nat := (s.find? fun p => decide (p.1 = m)).map (·.2)
structure US where
  seen : List (Tm × Nat)
  ls : List Nat
  met : Bool
def ulStep (ts : List Tm) (st : US) (k : Nat) : US :=
  match lkT st.seen (mk st.ls (ts.getD k (.num 0))) with
  | none => { st with seen := st.seen ++ [(mk st.ls (ts.getD k (.num 0)), k)] }
  | some s => if st.ls.getD s 0 = st.ls.getD k 0 then st else { st with ls := uni st.ls s k, met := true }
def ulPass (ts : List Tm) (ls : List Nat) : Nat → US
  | 0 => ⟨[], ls, false⟩
  | k + 1 => ulStep ts (ulPass ts ls k) k
def ulAll (ts : List Tm) (ls : List Nat) : US := ulPass ts ls ts.length
/-- as often as there is something to be done -/
def ulLoop (ts : List Tm) : Nat → List Nat → List Nat
  | 0, ls => ls
  | f + 1, ls => if (ulAll ts ls).met = true then ulLoop ts f (ulAll ts ls).ls else (ulAll ts ls).ls
def edged (ls : List Nat) (es : List (Nat × Nat)) : List Nat := es.foldl (fun l e => uni l e.1 e.2) ls
def closedM (ts : List Tm) (es : List (Nat × Nat)) : List Nat := ulLoop ts ((edged (List.range ts.length) es).sum + 1) (edged (List.range ts.length) es)

/-! ### leads -/
structure Good (n : Nat) (ls : List Nat) : Prop where
  len : ls.length = n
  le : ∀ k, k < n → ls.getD k 0 ≤ k
  idem : ∀ k, k < n → ls.getD (ls.getD k 0) 0 = ls.getD k 0
theorem getD_map {ls : List Nat} {f : Nat → Nat} {k : Nat} (h : k < ls.length) : (ls.map f).getD k 0 = f (ls.getD k 0) := by
  simp [List.getD, h]
theorem getD_range {n k : Nat} (h : k < n) : (List.range n).getD k 0 = k := by simp [List.getD, h]
theorem Good.range (n : Nat) : Good n (List.range n) := ⟨List.length_range, fun k h => by rw [getD_range h]; exact Nat.le_refl _, fun k h => by rw [getD_range h, getD_range h]⟩
theorem Good.lt {n : Nat} {ls : List Nat} (g : Good n ls) {k : Nat} (h : k < n) : ls.getD k 0 < n := Nat.lt_of_le_of_lt (g.le k h) h
theorem uni_at {n : Nat} {ls : List Nat} (g : Good n ls) {i j k : Nat} (hk : k < n) : (uni ls i j).getD k 0 = if ls.getD i 0 = ls.getD j 0 then ls.getD k 0 else if ls.getD k 0 = max (ls.getD i 0) (ls.getD j 0) then min (ls.getD i 0) (ls.getD j 0) else ls.getD k 0 := by
  unfold uni
  by_cases e : ls.getD i 0 = ls.getD j 0
  · rw [if_pos e, if_pos e]
  · rw [if_neg e, if_neg e, getD_map (by rw [g.len]; exact hk)]
theorem Good.uni {n : Nat} {ls : List Nat} (g : Good n ls) {i j : Nat} (hi : i < n) (hj : j < n) : Good n (SW.uni ls i j) := by
  have li := g.lt hi
  have lj := g.lt hj
  refine ⟨?_, fun k hk => ?_, fun k hk => ?_⟩
  · unfold SW.uni
    split
    · exact g.len
    · rw [List.length_map]; exact g.len
  · rw [uni_at g hk]
    have := g.le k hk
    split
    · exact this
    · split
      · omega
      · exact this
  · have lk := g.lt hk
    have ii := g.idem i hi
    have jj := g.idem j hj
    have kk := g.idem k hk
    by_cases e : ls.getD i 0 = ls.getD j 0
    · rw [uni_at g hk, if_pos e, uni_at g lk, if_pos e]; exact kk
    · rw [uni_at g hk, if_neg e]
      by_cases q : ls.getD k 0 = max (ls.getD i 0) (ls.getD j 0)
      · rw [if_pos q]
        have lm : min (ls.getD i 0) (ls.getD j 0) < n := by omega
        rw [uni_at g lm, if_neg e]
        have : ls.getD (min (ls.getD i 0) (ls.getD j 0)) 0 = min (ls.getD i 0) (ls.getD j 0) := by
          rcases Nat.le_total (ls.getD i 0) (ls.getD j 0) with z | z
          · rw [Nat.min_eq_left z]; exact ii
          · rw [Nat.min_eq_right z]; exact jj
        rw [this, if_neg (by omega)]
      · rw [if_neg q, uni_at g lk, if_neg e, kk, if_neg q]
/-- made one -/
theorem uni_eq {n : Nat} {ls : List Nat} (g : Good n ls) {i j : Nat} (hi : i < n) (hj : j < n) : (uni ls i j).getD i 0 = (uni ls i j).getD j 0 := by
  rw [uni_at g hi, uni_at g hj]
  by_cases e : ls.getD i 0 = ls.getD j 0
  · rw [if_pos e, if_pos e, e]
  · rw [if_neg e, if_neg e]
    rcases Nat.lt_or_ge (ls.getD i 0) (ls.getD j 0) with z | z
    · rw [if_neg (by omega), if_pos (by omega)]; omega
    · rw [if_pos (by omega), if_neg (by omega)]; omega
/-- what is one stays one -/
theorem uni_keep {n : Nat} {ls : List Nat} (g : Good n ls) {i j a b : Nat} (ha : a < n) (hb : b < n) (e : ls.getD a 0 = ls.getD b 0) : (uni ls i j).getD a 0 = (uni ls i j).getD b 0 := by
  rw [uni_at g ha, uni_at g hb, e]
theorem sum_map_le (ls : List Nat) (hi lo : Nat) (h : lo < hi) : (ls.map fun x => if x = hi then lo else x).sum ≤ ls.sum := by
  induction ls with
  | nil => exact Nat.le_refl _
  | cons x ls ih =>
    rw [List.map_cons, List.sum_cons, List.sum_cons]
    split <;> omega
theorem sum_map_lt (ls : List Nat) (hi lo : Nat) (h : lo < hi) (m : hi ∈ ls) : (ls.map fun x => if x = hi then lo else x).sum < ls.sum := by
  induction ls with
  | nil => cases m
  | cons x ls ih =>
    rw [List.map_cons, List.sum_cons, List.sum_cons]
    have := sum_map_le ls hi lo h
    by_cases e : x = hi
    · rw [if_pos e]; omega
    · rw [if_neg e]
      have := ih ((List.mem_cons.mp m).resolve_left (fun z => e z.symm))
      omega
theorem uni_sum {n : Nat} {ls : List Nat} (g : Good n ls) {i j : Nat} (hi : i < n) (hj : j < n) (e : ¬ ls.getD i 0 = ls.getD j 0) : (uni ls i j).sum < ls.sum := by
  unfold uni
  rw [if_neg e]
  have mem : ∀ k, k < n → ls.getD k 0 ∈ ls := fun k hk => by
    have hk' : k < ls.length := by rw [g.len]; exact hk
    have : ls.getD k 0 = ls[k] := by simp [List.getD, hk']
    rw [this]; exact List.getElem_mem hk'
  refine sum_map_lt _ _ _ (by omega) ?_
  rcases Nat.le_total (ls.getD i 0) (ls.getD j 0) with z | z
  · rw [Nat.max_eq_right z]; exact mem j hj
  · rw [Nat.max_eq_left z]; exact mem i hi

/-! ### sameness -/
structure Congr (ts : List Tm) (es : List (Nat × Nat)) (R : Nat → Nat → Prop) : Prop where
  refl : ∀ a, R a a
  symm : ∀ a b, R a b → R b a
  trans : ∀ a b c, R a b → R b c → R a c
  edge : ∀ e ∈ es, R e.1 e.2
  same : ∀ i j, i < ts.length → j < ts.length → ts[i]? = ts[j]? → R i j
  cong : ∀ i j w ks js, ts[i]? = some (.of w ks) → ts[j]? = some (.of w js) → ks.length = js.length → (∀ k (h : k < ks.length) (h' : k < js.length), R ks[k] js[k]) → R i j
/-- every arm stands ahead -/
def WfT (ts : List Tm) : Prop := ∀ (i : Nat) (w : Str) (ks : List Nat), ts[i]? = some (Tm.of w ks) → ∀ k ∈ ks, k < i
/-- each term with its lead is in R -/
def Sound (n : Nat) (R : Nat → Nat → Prop) (ls : List Nat) : Prop := ∀ k, k < n → R k (ls.getD k 0)
theorem Sound.uni {ts : List Tm} {es : List (Nat × Nat)} {R : Nat → Nat → Prop} (C : Congr ts es R) {n : Nat} {ls : List Nat} (g : Good n ls) (s : Sound n R ls) {i j : Nat} (hi : i < n) (hj : j < n) (r : R i j) : Sound n R (SW.uni ls i j) := by
  intro k hk
  rw [uni_at g hk]
  have si := s i hi
  have sj := s j hj
  have sk := s k hk
  split
  · exact sk
  · split
    · rename_i e q
      rcases Nat.le_total (ls.getD i 0) (ls.getD j 0) with z | z
      · rw [Nat.min_eq_left z]
        rw [Nat.max_eq_right z] at q
        rw [q] at sk
        exact C.trans _ _ _ sk (C.trans _ _ _ (C.symm _ _ sj) (C.trans _ _ _ (C.symm _ _ r) si))
      · rw [Nat.min_eq_right z]
        rw [Nat.max_eq_left z] at q
        rw [q] at sk
        exact C.trans _ _ _ sk (C.trans _ _ _ (C.symm _ _ si) (C.trans _ _ _ r sj))
    · exact sk
theorem edged_ok {n : Nat} : ∀ (es : List (Nat × Nat)) (ls : List Nat), Good n ls → (∀ e ∈ es, e.1 < n ∧ e.2 < n) → Good n (edged ls es) ∧ (∀ a b, a < n → b < n → ls.getD a 0 = ls.getD b 0 → (edged ls es).getD a 0 = (edged ls es).getD b 0) ∧ ∀ e ∈ es, (edged ls es).getD e.1 0 = (edged ls es).getD e.2 0
  | [], ls, g, _ => ⟨g, fun _ _ _ _ h => h, fun e h => by cases h⟩
  | e :: es, ls, g, h => by
    have he := h e List.mem_cons_self
    obtain ⟨g2, k2, e2⟩ := edged_ok es (uni ls e.1 e.2) (g.uni he.1 he.2) fun x hx => h x (List.mem_cons_of_mem _ hx)
    refine ⟨g2, fun a b ha hb q => k2 a b ha hb (uni_keep g ha hb q), fun x hx => ?_⟩
    rcases List.mem_cons.mp hx with z | z
    · subst z
      exact k2 _ _ he.1 he.2 (uni_eq g he.1 he.2)
    · exact e2 x z
theorem edged_sound {ts : List Tm} {es0 : List (Nat × Nat)} {R : Nat → Nat → Prop} (C : Congr ts es0 R) {n : Nat} : ∀ (es : List (Nat × Nat)) (ls : List Nat), Good n ls → (∀ e ∈ es, e.1 < n ∧ e.2 < n) → (∀ e ∈ es, e ∈ es0) → Sound n R ls → Sound n R (edged ls es)
  | [], _, _, _, _, s => s
  | e :: es, ls, g, h, m, s => by
    have he := h e List.mem_cons_self
    exact edged_sound C es _ (g.uni he.1 he.2) (fun x hx => h x (List.mem_cons_of_mem _ hx)) (fun x hx => m x (List.mem_cons_of_mem _ hx)) (s.uni C g he.1 he.2 (C.edge e (m e List.mem_cons_self)))

/-! ### one walk over the terms -/
theorem lkT_app (s : List (Tm × Nat)) (m m' : Tm) (k : Nat) : lkT (s ++ [(m', k)]) m = (lkT s m).or (if m' = m then some k else none) := by
  unfold lkT
  rw [List.find?_append]
  cases h : s.find? fun p => decide (p.1 = m) with
  | some p => simp
  | none =>
    by_cases e : m' = m
    · simp [e]
    · simp [e]
theorem lkT_mem {s : List (Tm × Nat)} {m : Tm} {k : Nat} (h : lkT s m = some k) : (m, k) ∈ s := by
  unfold lkT at h
  obtain ⟨p, hp, e⟩ := Option.map_eq_some_iff.mp h
  have h1 := List.find?_some hp
  have h2 := List.mem_of_find?_eq_some hp
  have e1 : p.1 = m := by simpa using h1
  have : p = (m, k) := by rw [← e1, ← e]
  rw [← this]; exact h2
structure Pass (ts : List Tm) (ls0 : List Nat) (k : Nat) (st : US) : Prop where
  good : Good ts.length st.ls
  seen : ∀ p ∈ st.seen, p.2 < k
  keep : ∀ a b, a < ts.length → b < ts.length → ls0.getD a 0 = ls0.getD b 0 → st.ls.getD a 0 = st.ls.getD b 0
  yes : st.met = true → st.ls.sum < ls0.sum
  no : st.met = false → st.ls = ls0 ∧ (∀ p ∈ st.seen, ∃ t, ts[p.2]? = some t ∧ p.1 = mk ls0 t) ∧ ∀ i t, i < k → ts[i]? = some t → ∃ s, lkT st.seen (mk ls0 t) = some s ∧ ls0.getD s 0 = ls0.getD i 0
  sound : ∀ (es : List (Nat × Nat)) (R : Nat → Nat → Prop), Congr ts es R → Sound ts.length R ls0 → Sound ts.length R st.ls ∧ ∀ p ∈ st.seen, ∃ ls' t, Sound ts.length R ls' ∧ ts[p.2]? = some t ∧ p.1 = mk ls' t
theorem mk_cong {ts : List Tm} {es : List (Nat × Nat)} {R : Nat → Nat → Prop} (C : Congr ts es R) (wf : WfT ts) {l1 l2 : List Nat} (s1 : Sound ts.length R l1) (s2 : Sound ts.length R l2) {i j : Nat} {t u : Tm} (hi : ts[i]? = some t) (hj : ts[j]? = some u) (e : mk l1 t = mk l2 u) : R i j := by
  have li := (List.getElem?_eq_some_iff.mp hi).1
  have lj := (List.getElem?_eq_some_iff.mp hj).1
  cases t with
  | num n => cases u with
    | num m => simp only [mk] at e; exact C.same i j li lj (by rw [hi, hj, e])
    | name y => simp [mk] at e
    | of v js => simp [mk] at e
  | name x => cases u with
    | num m => simp [mk] at e
    | name y => simp only [mk] at e; exact C.same i j li lj (by rw [hi, hj, e])
    | of v js => simp [mk] at e
  | of w ks => cases u with
    | num m => simp [mk] at e
    | name y => simp [mk] at e
    | of v js =>
      simp only [mk, Tm.of.injEq] at e
      obtain ⟨e1, e2⟩ := e
      subst e1
      have el : ks.length = js.length := by simpa using congrArg List.length e2
      refine C.cong i j w ks js hi hj el fun k h h' => ?_
      have q : (ks.map fun k => l1.getD k 0)[k]? = (js.map fun k => l2.getD k 0)[k]? := by rw [e2]
      rw [List.getElem?_map, List.getElem?_map, List.getElem?_eq_getElem h, List.getElem?_eq_getElem h'] at q
      have q' : l1.getD ks[k] 0 = l2.getD js[k] 0 := by simpa using q
      have a1 := s1 ks[k] (Nat.lt_trans (wf i w ks hi _ (List.getElem_mem h)) li)
      have a2 := s2 js[k] (Nat.lt_trans (wf j w js hj _ (List.getElem_mem h')) lj)
      rw [q'] at a1
      exact C.trans _ _ _ a1 (C.symm _ _ a2)
theorem getD_of {ts : List Tm} {k : Nat} {t : Tm} (h : ts[k]? = some t) : ts.getD k (.num 0) = t := by simp [List.getD, h]
theorem pass_ok {ts : List Tm} (wf : WfT ts) {ls0 : List Nat} (g0 : Good ts.length ls0) : ∀ k, k ≤ ts.length → Pass ts ls0 k (ulPass ts ls0 k)
  | 0, _ => ⟨g0, (fun p h => by cases h), (fun _ _ _ _ h => h), (fun h => by cases h), (fun _ => ⟨rfl, (fun p h => by cases h), (fun i t h => by omega)⟩), fun es R C s => ⟨s, fun p h => by cases h⟩⟩
  | k + 1, hk => by
    have ih := pass_ok wf g0 k (by omega)
    show Pass ts ls0 (k + 1) (ulStep ts (ulPass ts ls0 k) k)
    generalize ulPass ts ls0 k = st at ih
    obtain ⟨t, ht⟩ : ∃ t, ts[k]? = some t := ⟨ts[k]'(by omega), by simp [show k < ts.length by omega]⟩
    have hkl : k < ts.length := by omega
    unfold ulStep
    rw [getD_of ht]
    cases hl : lkT st.seen (mk st.ls t) with
    | none =>
      simp only
      refine ⟨ih.good, fun p hp => ?_, ih.keep, ih.yes, fun hm => ?_, fun es R C s => ?_⟩
      · rcases List.mem_append.mp hp with h | h
        · have := ih.seen p h; omega
        · rw [List.mem_singleton.mp h]; exact Nat.lt_succ_self k
      · obtain ⟨h1, h2, h3⟩ := ih.no hm
        refine ⟨h1, fun p hp => ?_, fun i u hi hu => ?_⟩
        · rcases List.mem_append.mp hp with h | h
          · exact h2 p h
          · rw [List.mem_singleton.mp h]; exact ⟨t, ht, by rw [h1]⟩
        · rw [lkT_app]
          by_cases z : i = k
          · subst z
            rw [ht] at hu; cases hu
            rw [h1] at hl
            rw [hl, h1, if_pos rfl]
            exact ⟨i, rfl, rfl⟩
          · obtain ⟨s, q1, q2⟩ := h3 i u (by omega) hu
            exact ⟨s, by rw [q1]; rfl, q2⟩
      · obtain ⟨q1, q2⟩ := ih.sound es R C s
        refine ⟨q1, fun p hp => ?_⟩
        rcases List.mem_append.mp hp with h | h
        · exact q2 p h
        · rw [List.mem_singleton.mp h]; exact ⟨st.ls, t, q1, ht, rfl⟩
    | some s =>
      simp only
      have hs : s < k := ih.seen _ (lkT_mem hl)
      have hsl : s < ts.length := by omega
      by_cases e : st.ls.getD s 0 = st.ls.getD k 0
      · rw [if_pos e]
        refine ⟨ih.good, fun p hp => Nat.lt_succ_of_lt (ih.seen p hp), ih.keep, ih.yes, fun hm => ?_, ih.sound⟩
        obtain ⟨h1, h2, h3⟩ := ih.no hm
        refine ⟨h1, h2, fun i u hi hu => ?_⟩
        by_cases z : i = k
        · subst z
          rw [ht] at hu; cases hu
          rw [h1] at hl e
          exact ⟨s, hl, e⟩
        · exact h3 i u (by omega) hu
      · rw [if_neg e]
        refine ⟨ih.good.uni hsl hkl, fun p hp => Nat.lt_succ_of_lt (ih.seen p hp), fun a b ha hb q => uni_keep ih.good ha hb (ih.keep a b ha hb q), fun _ => ?_, (fun h => by cases h), fun es R C z => ?_⟩
        · have h1 := uni_sum ih.good hsl hkl e
          cases hm : st.met with
          | true => exact Nat.lt_trans h1 (ih.yes hm)
          | false => rw [← (ih.no hm).1]; exact h1
        · obtain ⟨q1, q2⟩ := ih.sound es R C z
          obtain ⟨ls', u, r1, r2, r3⟩ := q2 _ (lkT_mem hl)
          exact ⟨q1.uni C ih.good hsl hkl (mk_cong C wf r1 q1 r2 ht r3.symm), q2⟩
/-- what closed tells -/
structure Closed (ts : List Tm) (es : List (Nat × Nat)) (ls : List Nat) : Prop where
  good : Good ts.length ls
  edge : ∀ e ∈ es, ls.getD e.1 0 = ls.getD e.2 0
  like : ∀ i j t u, ts[i]? = some t → ts[j]? = some u → mk ls t = mk ls u → ls.getD i 0 = ls.getD j 0
  least : ∀ R, Congr ts es R → Sound ts.length R ls
theorem loop_ok {ts : List Tm} (wf : WfT ts) {es : List (Nat × Nat)} (he : ∀ e ∈ es, e.1 < ts.length ∧ e.2 < ts.length) : ∀ (f : Nat) (ls : List Nat), ls.sum < f → Good ts.length ls → (∀ e ∈ es, ls.getD e.1 0 = ls.getD e.2 0) → (∀ R, Congr ts es R → Sound ts.length R ls) → Closed ts es (ulLoop ts f ls)
  | 0, ls, h, _, _, _ => by omega
  | f + 1, ls, h, g, hE, hS => by
    have P := pass_ok wf g ts.length (Nat.le_refl _)
    unfold ulLoop
    by_cases m : (ulAll ts ls).met = true
    · rw [if_pos m]
      refine loop_ok wf he f _ (by have := P.yes m; unfold ulAll; omega) P.good (fun e hx => P.keep _ _ (he e hx).1 (he e hx).2 (hE e hx)) fun R C => (P.sound es R C (hS R C)).1
    · rw [if_neg m]
      have m' : (ulAll ts ls).met = false := by simpa using m
      obtain ⟨h1, h2, h3⟩ := P.no m'
      have e1 : (ulAll ts ls).ls = ls := h1
      rw [e1]
      refine ⟨g, hE, fun i j t u hi hj e => ?_, hS⟩
      obtain ⟨s, q1, q2⟩ := h3 i t (List.getElem?_eq_some_iff.mp hi).1 hi
      obtain ⟨s', q1', q2'⟩ := h3 j u (List.getElem?_eq_some_iff.mp hj).1 hj
      rw [e, q1'] at q1
      cases q1
      rw [← q2, ← q2']
theorem closed_ok {ts : List Tm} (wf : WfT ts) {es : List (Nat × Nat)} (he : ∀ e ∈ es, e.1 < ts.length ∧ e.2 < ts.length) : Closed ts es (closedM ts es) := by
  obtain ⟨g, _, e⟩ := edged_ok es _ (Good.range ts.length) he
  refine loop_ok wf he _ _ (Nat.lt_succ_self _) g e fun R C => edged_sound C es _ (Good.range _) he (fun _ h => h) fun k hk => ?_
  rw [getD_range hk]; exact C.refl k
/-- leads that make a sameness -/
theorem Closed.congr {ts : List Tm} {es : List (Nat × Nat)} {ls : List Nat} (c : Closed ts es ls) : Congr ts es fun a b => ls.getD a 0 = ls.getD b 0 where
  refl := fun _ => rfl
  symm := fun _ _ h => h.symm
  trans := fun _ _ _ h h' => h.trans h'
  edge := c.edge
  same := fun i j hi hj e => by
    have h1 : ts[i]? = some ts[i] := by simp [hi]
    exact c.like i j _ _ h1 (by rw [← e]; exact h1) rfl
  cong := fun i j w ks js hi hj hl h => by
    have e : (ks.map fun k => ls.getD k 0) = (js.map fun k => ls.getD k 0) := by
      refine List.ext_getElem (by simpa using hl) fun k h1 h2 => ?_
      rw [List.getElem_map, List.getElem_map]
      exact h k (by simpa using h1) (by simpa using h2)
    exact c.like i j (.of w ks) (.of w js) hi hj (show Tm.of w (ks.map fun k => ls.getD k 0) = Tm.of w (js.map fun k => ls.getD k 0) by rw [e])
/-- there is one alone -/
theorem Closed.one {ts : List Tm} {es : List (Nat × Nat)} {a b : List Nat} (ca : Closed ts es a) (cb : Closed ts es b) : a = b := by
  have la := ca.good.len
  have lb := cb.good.len
  refine List.ext_getElem (la.trans lb.symm) fun k h1 h2 => ?_
  have hk : k < ts.length := by rw [← la]; exact h1
  have ea : a.getD k 0 = a[k] := by simp [List.getD, h1]
  have eb : b.getD k 0 = b[k] := by simp [List.getD, h2]
  rw [← ea, ← eb]
  have q1 := ca.least _ cb.congr k hk
  have q2 := cb.least _ ca.congr k hk
  have l1 := cb.good.le (a.getD k 0) (ca.good.lt hk)
  have l2 := ca.good.le (b.getD k 0) (cb.good.lt hk)
  omega
end SW
namespace SW
open PySem PySem.Spec L2 AL
def top (i : Nat) : Stmt := PySem.Challenge.pw_samewise_k91_alike_numbers_and_long_rows.main.body.getD i (.Pass ⟨0, 0, 0, 0⟩)
/-! ### as values -/
def nW (ks : List Nat) : List W := ks.map fun (k : Nat) => W.int k
theorem nW_length (ks : List Nat) : (nW ks).length = ks.length := by simp [nW]
theorem nW_get {ks : List Nat} {i k : Nat} (h : ks[i]? = some k) : (nW ks)[i]? = some (.int k) := by simp [nW, h]
theorem nW_getD {ks : List Nat} {i : Nat} (h : i < ks.length) : (nW ks)[i]? = some (.int (ks.getD i 0 : Nat)) := by simp [nW, List.getD, h]
theorem atI_of {xs : List W} {i : Nat} {w : W} (h : xs[i]? = some w) : atI xs (i : Int) = some w := atI_nat h
theorem nW_at {ks : List Nat} {i : Nat} (h : i < ks.length) : atI (nW ks) (i : Int) = some (.int (ks.getD i 0 : Nat)) := atI_of (nW_getD h)
theorem nW_set {ks : List Nat} {i k : Nat} : (nW ks).set i (.int k) = nW (ks.set i k) := by simp [nW, List.map_set]
def Tm.W : Tm → AL.W
  | .num n => .tup [.str "num", .int n]
  | .name x => .tup [.str "name", .str x]
  | .of w ks => .tup [.str "of", .str w, .tup (nW ks)]
def arms : Tm → List Nat
  | .of _ ks => ks
  | _ => []
def tW (ts : List Tm) : List AL.W := ts.map Tm.W
theorem tW_length (ts : List Tm) : (tW ts).length = ts.length := by simp [tW]
theorem tW_get {ts : List Tm} {i : Nat} {t : Tm} (h : ts[i]? = some t) : (tW ts)[i]? = some t.W := by simp [tW, h]
theorem tW_at {ts : List Tm} {i : Nat} {t : Tm} (h : ts[i]? = some t) : atI (tW ts) (i : Int) = some t.W := atI_of (tW_get h)
theorem ixN_nat {n j : Nat} (h : j < n) : ixN n (j : Int) = some j := by
  unfold ixN
  rw [if_pos (Int.natCast_nonneg j), if_pos (by omega)]
  rfl
/-- names of built-ins that the text leaves alone -/
structure Bl (mg : Str → Option Value) : Prop where
  len : mg "len" = none
  min : mg "min" = none
  max : mg "max" = none
  range : mg "range" = none
  list : mg "list" = none
  tuple : mg "tuple" = none
  zip : mg "zip" = none
  abs : mg "abs" = none
  int : mg "int" = none
  divmod : mg "divmod" = none
  enumerate : mg "enumerate" = none
  any : mg "any" = none

/-! ### mark -/
abbrev sMark : Stmt := top 8
theorem sc_mark : FnScope ["term", "leads", "arm"] ["term", "leads"] (defScope sMark) := ⟨rfl, rfl, rfl, by decide +kernel, rfl, by decide +kernel, by decide +kernel⟩
def spMark : ASp := fun ws G K _ => ∃ (t : Tm) (a : Addr) (ls : List Nat), ws = [t.W, .ref a] ∧ G a = some (.lst (nW ls)) ∧ (∀ k ∈ arms t, k < ls.length) ∧ (arms t).length ≤ 4 ∧ K (mk ls t).W G
section
variable {P : Program} {w : World} {K : PySem.W.Frag} {mg : Str → Option Value} {base : Heap}
theorem ok_mark {f : Addr} {fd : FuncData} (F : Fun K "mark" "mark" sMark f fd) (B : Bl mg) : FnOk P w K mg base CX0 1 f fd ["term", "leads"] (low ⟨P, w, K⟩ spMark) := by
  refine fnA_of F sc_mark (fun ws G Kc KE ⟨t, a, ls, e, _⟩ => by rw [e]; rfl) fun cdv A outer s H E ws G Kc KE hr ⟨t, a, ls, e, hL, hk, h4, k⟩ => ?_
  subst e
  refine s_cons (s_if (b_ne (u64 hr) (q_ix (qv 0 rfl (q_int ?_)))))
  cases t with
  | num n => exact q_str (ifB_T (by decide +kernel) (s_cons (s_ret (qv 0 rfl ⟨G, Sub.refl, k⟩))))
  | name x => exact q_str (ifB_T (by decide +kernel) (s_cons (s_ret (qv 0 rfl ⟨G, Sub.refl, k⟩))))
  | of wd ks =>
    refine q_str (ifB_F (by decide +kernel) ?_)
    refine s_nil ?_
    refine s_cons (s_ret (q_tup (a_cons (q_str (a_cons (q_ix (qv 0 rfl (q_int ?_))))))))
    refine a_cons (q_tuple B.tuple (a_cons (q_lc sc_mark.nd (blkOk_by (N := ["term", "leads", "arm"]) (sc := defScope sMark) (own := [("arm", 2)]) (by decide +kernel)) (i_tup (q_ix (qv 0 rfl (q_int ?_)))))))
    refine lk_mapZ (zs := ks) (fun (k : Nat) => W.int k) (fun k => W.int (ls.getD k 0 : Nat)) sc_mark.nd (Nat.le_trans h4 (by decide)) (fun _ _ _ => trivial) (fun z hz D ws hD s0 H0 C cl fp => ?_) (fun D hD => ?_)
    · refine q_ix (qv 1 rfl (qv 2 rfl ?_))
      exact ⟨_, _, aup_new hD hL, nW_at (hk z hz), rfl, rfl⟩
    · refine a_nil ⟨_, aup_same, ?_⟩
      refine a_nil ⟨G, Sub.new hD, ?_⟩
      have e : ks.map (fun k => W.int (ls.getD k 0 : Nat)) = nW (ks.map fun k => ls.getD k 0) := by simp [nW]
      rw [e]
      exact k
/-! ### unite -/
abbrev sUnite : Stmt := top 9
theorem sc_unite : FnScope ["leads", "one", "other", "low", "high", "k"] ["leads", "one", "other"] (defScope sUnite) := ⟨rfl, rfl, rfl, by decide +kernel, rfl, by decide +kernel, by decide +kernel⟩
def spUnite : ASp := fun ws G K _ => ∃ (a : Addr) (ls : List Nat) (i j : Nat), ws = [.ref a, .int i, .int j] ∧ G a = some (.lst (nW ls)) ∧ i < ls.length ∧ j < ls.length ∧ ls.length ≤ 1000 ∧ K .non (aup G a (.lst (nW (uni ls i j))))
theorem min_cast (i j : Nat) : (if (j : Int) < (i : Int) then (j : Int) else (i : Int)) = ((min i j : Nat) : Int) := by split <;> omega
theorem max_cast (i j : Nat) : (if (j : Int) > (i : Int) then (j : Int) else (i : Int)) = ((max i j : Nat) : Int) := by split <;> omega
theorem aup_id {G : AH} {a : Addr} {o : AO} (h : G a = some o) : aup G a o = G := by
  funext b
  unfold aup
  split
  · rename_i e; rw [e, h]
  · rfl
/-- the first k have changed -/
def partU (ls : List Nat) (i j k : Nat) : List Nat := (ls.take k).map (fun x => if x = max (ls.getD i 0) (ls.getD j 0) then min (ls.getD i 0) (ls.getD j 0) else x) ++ ls.drop k
theorem partU_zero (ls : List Nat) (i j : Nat) : partU ls i j 0 = ls := by simp [partU]
theorem partU_end {ls : List Nat} {i j : Nat} (e : ¬ ls.getD i 0 = ls.getD j 0) : partU ls i j ls.length = uni ls i j := by
  unfold partU uni
  rw [if_neg e, List.take_length, List.drop_length, List.append_nil]
theorem partU_len (ls : List Nat) (i j k : Nat) : (partU ls i j k).length = ls.length := by
  unfold partU
  rw [List.length_append, List.length_map, List.length_take, List.length_drop]
  omega
theorem partU_at {ls : List Nat} {i j k : Nat} (h : k < ls.length) : (partU ls i j k).getD k 0 = ls.getD k 0 := by
  unfold partU
  have e : ((ls.take k).map (fun x => if x = max (ls.getD i 0) (ls.getD j 0) then min (ls.getD i 0) (ls.getD j 0) else x)).length = k := by
    rw [List.length_map, List.length_take]; omega
  rw [List.getD, List.getElem?_append_right (by omega), e, Nat.sub_self, List.getElem?_drop, Nat.add_zero]
  rfl
theorem partU_succ {ls : List Nat} {i j k : Nat} (h : k < ls.length) : partU ls i j (k + 1) = (partU ls i j k).set k (if ls.getD k 0 = max (ls.getD i 0) (ls.getD j 0) then min (ls.getD i 0) (ls.getD j 0) else ls.getD k 0) := by
  unfold partU
  have e : ((ls.take k).map (fun x => if x = max (ls.getD i 0) (ls.getD j 0) then min (ls.getD i 0) (ls.getD j 0) else x)).length = k := by
    rw [List.length_map, List.length_take]; omega
  have d : ls.drop k = ls.getD k 0 :: ls.drop (k + 1) := by
    rw [List.drop_eq_getElem_cons h]
    congr 1
    simp [List.getD, h]
  have g : ls[k]? = some (ls.getD k 0) := by simp [List.getD, h]
  rw [List.set_append_right _ _ (by omega), e, Nat.sub_self, d, List.set_cons_zero, List.take_succ, g, Option.toList_some, List.map_append, List.append_assoc]
  rfl
theorem set_same {ls : List Nat} {k : Nat} (h : k < ls.length) : ls.set k (ls.getD k 0) = ls := by
  refine List.ext_getElem (by simp) fun m h1 h2 => ?_
  rw [List.getElem_set]
  split
  · rename_i e; subst e; simp [List.getD, h]
  · rfl
theorem ok_unite {f : Addr} {fd : FuncData} (F : Fun K "unite" "unite" sUnite f fd) (B : Bl mg) : FnOk P w K mg base CX0 1 f fd ["leads", "one", "other"] (low ⟨P, w, K⟩ spUnite) := by
  refine fnA_of F sc_unite (fun ws G Kc KE ⟨a, ls, i, j, e, _⟩ => by rw [e]; rfl) fun cdv A outer s H E ws G Kc KE hr ⟨a, ls, i, j, e, hL, hi, hj, hn, k⟩ => ?_
  subst e
  refine s_cons (s_set (i := 3) sc_unite.nd (q_min2 B.min (a_cons (q_ix (qv 0 rfl (qv 1 rfl ⟨_, _, hL, nW_at hi, ?_⟩))))))
  refine a_cons (q_ix (qv 0 rfl (qv 2 rfl ⟨_, _, hL, nW_at hj, ?_⟩)))
  refine a_nil ?_
  refine SQ.st [some (.ref a), some (.int i), some (.int j), some (.int (min (ls.getD i 0) (ls.getD j 0) : Nat)), none, none] (by rw [← min_cast]; rfl) ?_
  refine s_cons (s_set (i := 4) sc_unite.nd (q_max2 B.max (a_cons (q_ix (qv 0 rfl (qv 1 rfl ⟨_, _, hL, nW_at hi, ?_⟩))))))
  refine a_cons (q_ix (qv 0 rfl (qv 2 rfl ⟨_, _, hL, nW_at hj, ?_⟩)))
  refine a_nil ?_
  refine SQ.st [some (.ref a), some (.int i), some (.int j), some (.int (min (ls.getD i 0) (ls.getD j 0) : Nat)), some (.int (max (ls.getD i 0) (ls.getD j 0) : Nat)), none] (by rw [← max_cast]; rfl) ?_
  refine s_cons (s_if (b_eq (u64 hr) (qv 3 rfl (qv 4 rfl ?_))))
  refine ifB_dec (fun e => ?_) (fun e => ?_)
  · refine s_cons (s_retN ⟨_, Sub.refl, ?_⟩)
    have e' : ls.getD i 0 = ls.getD j 0 := by omega
    have q : uni ls i j = ls := by unfold uni; rw [if_pos e']
    rw [q, aup_id hL] at k
    exact k
  · refine s_nil ?_
    have e' : ¬ ls.getD i 0 = ls.getD j 0 := fun z => e (by rw [z, Nat.min_self, Nat.max_self])
    refine s_cons (s_for PassesOwn.never rfl (i_range1 rfl B.range (q_len B.len (a_cons (qv 0 rfl (a_nil ⟨_, hL, ?_⟩)))) rfl))
    have n1 : ((nW ls).length : Int) = (ls.length : Int) := by rw [nW_length]
    refine ⟨by omega, by rw [n1]; omega, fun k ρ' G' => ∃ v, ρ' = [some (.ref a), some (.int i), some (.int j), some (.int (min (ls.getD i 0) (ls.getD j 0) : Nat)), some (.int (max (ls.getD i 0) (ls.getD j 0) : Nat)), v] ∧ G' = aup G a (.lst (nW (partU ls i j k))), ⟨none, rfl, ?_⟩, fun _ _ _ _ _ => trivial, fun m x ρ' G' hx ⟨v, e1, e2⟩ => ?_, fun ρ' G' ⟨v, e1, e2⟩ => ?_⟩
    · rw [partU_zero, aup_id hL]
    · obtain ⟨hm, rfl⟩ := rng0_item hx
      have hm : m < ls.length := by rw [nW_length] at hm; simpa using hm
      subst e1 e2
      refine g_name (i := 5) sc_unite.nd ?_
      have hm2 : m < (partU ls i j m).length := by rw [partU_len]; exact hm
      refine s_cons (s_if (b_eq (u64 hr) (q_ix (qv 0 rfl (qv 5 rfl ⟨_, _, aup_same, nW_at hm2, ?_⟩)))))
      refine qv 4 rfl ?_
      refine ifB_dec (fun z => ?_) (fun z => ?_)
      · rw [partU_at hm] at z
        refine s_cons (s_asg (qv 3 rfl (g_ix (qv 0 rfl (qv 5 rfl ⟨_, _, aup_same, by rw [nW_length, partU_len]; exact ixN_nat hm, ?_⟩)))))
        refine s_nil (s_nil ⟨_, rfl, ?_⟩)
        rw [aup_aup, nW_set, partU_succ hm, if_pos (by omega)]
      · rw [partU_at hm] at z
        refine s_nil (s_nil ⟨_, rfl, ?_⟩)
        rw [partU_succ hm, if_neg (by omega)]
        rw [← partU_at (i := i) (j := j) hm, set_same hm2]
    · refine s_nil ⟨G', Sub.refl, ?_⟩
      have : ((nW ls).length : Int).toNat = ls.length := by rw [nW_length]; simp
      rw [rngW_length, this] at e2
      rw [e2, partU_end e']
      exact k

/-! ### unite_like -/
abbrev sUl : Stmt := top 10
theorem sc_ul : FnScope ["terms", "leads", "seen", "met", "k", "own"] ["terms", "leads"] (defScope sUl) := ⟨rfl, rfl, rfl, by decide +kernel, rfl, by decide +kernel, by decide +kernel⟩
/-- the terms that are handed in: each with at most four arms, each arm ahead, at most 400 of them -/
structure TsOk (ts : List Tm) : Prop where
  wf : WfT ts
  four : ∀ (i : Nat) (w : Str) (ks : List Nat), ts[i]? = some (Tm.of w ks) → ks.length ≤ 4
  many : ts.length ≤ 400
def spUl : ASp := fun ws G K _ => ∃ (b a : Addr) (ts : List Tm) (ls : List Nat), ws = [.ref b, .ref a] ∧ b ≠ a ∧ G b = some (.lst (tW ts)) ∧ G a = some (.lst (nW ls)) ∧ Good ts.length ls ∧ TsOk ts ∧ K (.bl (ulAll ts ls).met) (aup G a (.lst (nW (ulAll ts ls).ls)))
end
theorem nW_inj : ∀ {ks js : List Nat}, nW ks = nW js → ks = js
  | [], [], _ => rfl
  | k :: ks, j :: js, h => by
    simp only [nW, List.map_cons, List.cons.injEq, W.int.injEq] at h
    rw [nW_inj (ks := ks) (js := js) h.2, Int.ofNat_inj.mp h.1]
  | [], _ :: _, h => by simp [nW] at h
  | _ :: _, [], h => by simp [nW] at h
theorem strs_ne : ¬ (Str.ofString "num") = (Str.ofString "name") ∧ ¬ (Str.ofString "num") = (Str.ofString "of") ∧ ¬ (Str.ofString "name") = (Str.ofString "of") := by decide +kernel
theorem Tm.W_inj {t u : Tm} (h : t.W = u.W) : t = u := by
  obtain ⟨n1, n2, n3⟩ := strs_ne
  cases t <;> cases u <;> simp only [Tm.W, W.tup.injEq, List.cons.injEq, W.str.injEq, W.int.injEq, and_true, List.nil_eq, reduceCtorEq, and_false, false_and] at h
  · rw [h.2]
  · rw [h.2]
  · rw [h.2.1, nW_inj h.2.2]
theorem kbls_nW : ∀ ks : List Nat, kbls (nW ks) = true
  | [] => rfl
  | k :: ks => by show (true && kbls (nW ks)) = true; rw [kbls_nW ks]; rfl
theorem depth_nW : ∀ ks : List Nat, NestedKey.depthAll (nks (nW ks)) = 0
  | [] => rfl
  | k :: ks => by show max 0 (NestedKey.depthAll (nks (nW ks))) = 0; rw [depth_nW ks]; rfl
theorem keyOk_W (t : Tm) : keyOk t.W = true := by
  cases t with
  | num n => rfl
  | name x => rfl
  | of w ks =>
    show ((true && (true && (kbls (nW ks) && true))) && Nat.ble (max 0 (max 0 (max (NestedKey.depthAll (nks (nW ks)) + 1) 0))) 7) = true
    rw [kbls_nW, depth_nW]; rfl
def seenW (s : List (Tm × Nat)) : List (W × W) := s.map fun p => (p.1.W, .int (p.2 : Nat))
theorem lk_seen (s : List (Tm × Nat)) (m : Tm) : lk (seenW s) m.W = (lkT s m).map fun (k : Nat) => W.int k := by
  induction s with
  | nil => rfl
  | cons p s ih =>
    show lk ((p.1.W, W.int p.2) :: seenW s) m.W = _
    rw [lk_cons, ih]
    unfold lkT
    by_cases e : p.1 = m
    · rw [if_pos (by rw [e])]; simp [e]
    · rw [if_neg (fun z => e (Tm.W_inj z))]; simp [e]
section
variable {P : Program} {w : World} {K : PySem.W.Frag} {mg : Str → Option Value} {base : Heap}
theorem mk_arms {ts : List Tm} (T : TsOk ts) {ls : List Nat} (g : ls.length = ts.length) {k : Nat} {t : Tm} (h : ts[k]? = some t) : (∀ j ∈ arms t, j < ls.length) ∧ (arms t).length ≤ 4 := by
  have lk := (List.getElem?_eq_some_iff.mp h).1
  cases t with
  | num n => exact ⟨(fun j hj => by cases hj), Nat.zero_le _⟩
  | name n => exact ⟨(fun j hj => by cases hj), Nat.zero_le _⟩
  | of w ks => exact ⟨(fun j hj => by have := T.wf k w ks h j hj; omega), T.four k w ks h⟩
theorem seen_le {ts : List Tm} {ls : List Nat} : ∀ k, (ulPass ts ls k).seen.length ≤ k
  | 0 => Nat.le_refl _
  | k + 1 => by
    have ih := seen_le (ts := ts) (ls := ls) k
    show (ulStep ts (ulPass ts ls k) k).seen.length ≤ k + 1
    unfold ulStep
    split
    · simp only [List.length_append, List.length_singleton]; omega
    · split
      · omega
      · simp only; omega
theorem ok_ul {f : Addr} {fd : FuncData} (F : Fun K "unite_like" "unite_like" sUl f fd) (B : Bl mg) (CM : Cal P w K mg base "mark" 1 ["term", "leads"] spMark) (CU : Cal P w K mg base "unite" 1 ["leads", "one", "other"] spUnite) : FnOk P w K mg base CX0 2 f fd ["terms", "leads"] (low ⟨P, w, K⟩ spUl) := by
  refine fnA_of F sc_ul (fun ws G Kc KE ⟨b, a, ts, ls, e, _⟩ => by rw [e]; rfl) fun cdv A outer s H E ws G Kc KE hr ⟨b, a, ts, ls, e, hba, hT, hL, good, T, k⟩ => ?_
  subst e
  refine s_cons (s_set (i := 2) sc_ul.nd (q_dnewN fun d hd => ?_))
  refine s_cons (s_set (i := 3) sc_ul.nd (q_bl ?_))
  have hda : d ≠ a := (ane_none hL hd).symm
  have hdb : d ≠ b := (ane_none hT hd).symm
  refine s_cons (s_for PassesOwn.never rfl (i_range1 rfl B.range (q_len B.len (a_cons (qv 0 rfl (a_nil ⟨_, aup_new hd hT, ?_⟩)))) rfl))
  have n1 : ((tW ts).length : Int) = (ts.length : Int) := by rw [tW_length]
  have many := T.many
  refine ⟨by omega, by rw [n1]; omega, fun m ρ' G' => ∃ v v', ρ' = [some (.ref b), some (.ref a), some (.ref d), some (.bl (ulPass ts ls m).met), v, v'] ∧ G' a = some (.lst (nW (ulPass ts ls m).ls)) ∧ G' d = some (.dN (seenW (ulPass ts ls m).seen)) ∧ Offs [d, a] G G', ⟨none, none, rfl, aup_new hd hL, aup_same, Offs.new Offs.refl⟩, fun _ _ _ _ _ => trivial, fun m x ρ' G' hx ⟨v, v', e1, ga, gd, off⟩ => ?_, fun ρ' G' ⟨v, v', e1, ga, gd, off⟩ => ?_⟩
  · obtain ⟨hm, rfl⟩ := rng0_item hx
    have hm : m < ts.length := by rw [tW_length] at hm; simpa using hm
    obtain ⟨t, ht⟩ : ∃ t, ts[m]? = some t := ⟨ts[m], by simp [hm]⟩
    have PO := pass_ok T.wf good m (by omega)
    have hb : G' b = some (.lst (tW ts)) := by rw [off b (by simp [hdb.symm, hba])]; exact hT
    subst e1
    refine g_name (i := 4) sc_ul.nd ?_
    obtain ⟨ar1, ar2⟩ := mk_arms T PO.good.len ht
    refine s_cons (s_set (i := 5) sc_ul.nd (q_cal CM hr (a_cons (q_ix (qv 0 rfl (qv 4 rfl ⟨_, _, hb, tW_at ht, ?_⟩))))))
    refine a_cons (qv 1 rfl (a_nil ⟨t, a, _, rfl, ga, ar1, ar2, ?_⟩))
    refine s_cons (s_if (b_dninN (u9 hr) (qv 5 rfl (qv 2 rfl ⟨_, gd, keyOk_W _, ?_⟩))))
    have step : ulPass ts ls (m + 1) = ulStep ts (ulPass ts ls m) m := rfl
    have SL := seen_le (ts := ts) (ls := ls) m
    generalize ulPass ts ls m = st at PO ga gd ar1 step SL ⊢
    rw [lk_seen]
    cases hl : lkT st.seen (mk st.ls t) with
    | none =>
      refine ifT ?_
      have step2 : ulStep ts st m = { st with seen := st.seen ++ [(mk st.ls t, m)] } := by unfold ulStep; rw [getD_of ht, hl]
      have hlen : (seenW st.seen).length < sizeLine := by
        have : (seenW st.seen).length ≤ 400 := by show (st.seen.map _).length ≤ 400; rw [List.length_map]; omega
        exact Nat.lt_of_le_of_lt this (by decide)
      refine s_cons (s_asg (qv 4 rfl (g_dputN (u9 hr) (qv 2 rfl (qv 5 rfl ⟨_, gd, keyOk_W _, hlen, ?_⟩)))))
      refine s_nil (s_nil ⟨some (.int m), some (mk st.ls t).W, ?_, ?_, ?_, ?_⟩)
      · rw [step, step2]; rfl
      · rw [step, step2]; exact aup_old hda.symm ga
      · rw [step, step2, aup_same, pk_new _ (by rw [lk_seen, hl]; rfl)]
        show _ = some (AO.dN (List.map _ (st.seen ++ [(mk st.ls t, m)])))
        rw [List.map_append]; rfl
      · exact off.put (by simp)
    | some z =>
      refine ifF ?_
      have hz : z < m := PO.seen _ (lkT_mem hl)
      have lenS : st.ls.length = ts.length := PO.good.len
      refine s_cons (s_if (b_ne (u64 hr) (q_ix (qv 1 rfl (q_dgetN (u9 hr) (qv 2 rfl (qv 5 rfl ⟨_, W.int z, gd, keyOk_W _, by rw [lk_seen, hl]; rfl, ?_⟩)))))))
      refine ⟨_, _, ga, nW_at (by omega), ?_⟩
      refine q_ix (qv 1 rfl (qv 4 rfl ⟨_, _, ga, nW_at (by omega), ?_⟩))
      refine ifB_ndec (fun e => ?_) (fun e => ?_)
      · have step2 : ulStep ts st m = { st with ls := uni st.ls z m, met := true } := by
          unfold ulStep
          rw [getD_of ht, hl]
          show (if _ then _ else _) = _
          rw [if_neg (by omega)]
        refine s_cons (s_expr (q_cal CU hr (a_cons (qv 1 rfl (a_cons (q_dgetN (u9 hr) (qv 2 rfl (qv 5 rfl ⟨_, W.int z, gd, keyOk_W _, by rw [lk_seen, hl]; rfl, ?_⟩))))))))
        refine a_cons (qv 4 rfl (a_nil ⟨a, _, z, m, rfl, ga, by omega, by omega, by omega, ?_⟩))
        refine s_cons (s_set (i := 3) sc_ul.nd (q_bl ?_))
        refine s_nil (s_nil (s_nil ⟨some (.int m), some (mk st.ls t).W, ?_, ?_, ?_, ?_⟩))
        · rw [step, step2]; rfl
        · rw [step, step2, aup_same]
        · rw [step, step2]; exact aup_old hda gd
        · exact off.put (by simp)
      · have step2 : ulStep ts st m = st := by
          unfold ulStep
          rw [getD_of ht, hl]
          show (if _ then _ else _) = _
          rw [if_pos (by omega)]
        refine s_nil (s_nil (s_nil ⟨some (.int m), some (mk st.ls t).W, ?_, ?_, ?_, off⟩))
        · rw [step, step2]; rfl
        · rw [step, step2]; exact ga
        · rw [step, step2]; exact gd
  · have n2 : (rngW 0 1 ((tW ts).length : Int).toNat).length = ts.length := by rw [rngW_length, tW_length]; simp
    rw [n2] at e1 ga gd
    subst e1
    refine s_cons (s_ret (qv 3 rfl ⟨_, off.sub1 ga (fun q hq hqa => ?_), k⟩))
    have : q = d := by simpa [hqa] using hq
    rw [this]; exact hd

/-! ### closed -/
abbrev sClosed : Stmt := top 11
theorem sc_closed : FnScope ["terms", "edges", "leads", "edge"] ["terms", "edges"] (defScope sClosed) := ⟨rfl, rfl, rfl, by decide +kernel, rfl, by decide +kernel, by decide +kernel⟩
/-- an edge: its ends, its weight, why -/
structure Ed where
  a : Nat
  b : Nat
  w : Int
  why : W
def Ed.W (e : Ed) : AL.W := .tup [.int e.a, .int e.b, .int e.w, e.why]
def eW (es : List Ed) : List AL.W := es.map Ed.W
def ends (es : List Ed) : List (Nat × Nat) := es.map fun e => (e.a, e.b)
def spClosed : ASp := fun ws G K _ => ∃ (b c : Addr) (ts : List Tm) (es : List Ed), ws = [.ref b, .ref c] ∧ G b = some (.lst (tW ts)) ∧ G c = some (.lst (eW es)) ∧ TsOk ts ∧ (∀ e ∈ es, e.a < ts.length ∧ e.b < ts.length) ∧ ∀ p, G p = none → K (.ref p) (aup G p (.lst (nW (closedM ts (ends es)))))
theorem ok_closed {f : Addr} {fd : FuncData} (F : Fun K "closed" "closed" sClosed f fd) (B : Bl mg) (CU : Cal P w K mg base "unite" 1 ["leads", "one", "other"] spUnite) (CL : Cal P w K mg base "unite_like" 2 ["terms", "leads"] spUl) : FnOk P w K mg base CX0 3 f fd ["terms", "edges"] (low ⟨P, w, K⟩ spClosed) := by
  refine fnA_of F sc_closed (fun ws G Kc KE ⟨b, c, ts, es, e, _⟩ => by rw [e]; rfl) fun cdv A outer s H E ws G Kc KE hr ⟨b, c, ts, es, e, hT, hE, T, he, k⟩ => ?_
  subst e
  have many := T.many
  have n1 : ((tW ts).length : Int) = (ts.length : Int) := by rw [tW_length]
  refine s_cons (s_set (i := 2) sc_closed.nd (q_lrg1 B.range B.list (q_len B.len (a_cons (qv 0 rfl (a_nil ⟨_, hT, ?_⟩)))) rfl))
  refine ⟨RgOk.of_le (by omega) (by omega) (by omega) (by omega), fun a ha => ?_⟩
  have r0 : rngW 0 1 ((tW ts).length : Int).toNat = nW (List.range ts.length) := by
    rw [tW_length]
    simp [rngW, nW]
  rw [r0]
  have hab : a ≠ b := (ane_none hT ha).symm
  have hac : a ≠ c := (ane_none hE ha).symm
  have ends_at : ∀ (m : Nat) (e : Ed), es[m]? = some e → ends (es.take (m + 1)) = ends (es.take m) ++ [(e.a, e.b)] := fun m e h => by
    unfold ends
    rw [List.take_succ, h, List.map_append]; rfl
  have good : ∀ m, Good ts.length (edged (List.range ts.length) (ends (es.take m))) := fun m => (edged_ok _ _ (Good.range _) fun e hx => by
    obtain ⟨x, hx', rfl⟩ := List.mem_map.mp hx
    exact he x (List.mem_of_mem_take hx')).1
  refine s_cons (s_for PassesOwn.never rfl (i_list (qv 1 rfl ⟨c, _, rfl, aup_new ha hE, ?_⟩)))
  refine ⟨fun m ρ' G' => ∃ v, ρ' = [some (.ref b), some (.ref c), some (.ref a), v] ∧ G' = aup G a (.lst (nW (edged (List.range ts.length) (ends (es.take m))))), ⟨none, rfl, rfl⟩, fun m ρ' G' _ ⟨v, e1, e2⟩ => ?_, fun m x ρ' G' hx ⟨v, e1, e2⟩ => ?_, fun ρ' G' ⟨v, e1, e2⟩ => ?_⟩
  · rw [e2]; exact aup_new ha hE
  · subst e1 e2
    obtain ⟨e, hm, rfl⟩ : ∃ e, es[m]? = some e ∧ e.W = x := by
      rw [eW, List.getElem?_map] at hx
      exact Option.map_eq_some_iff.mp hx
    have hee := he e (List.mem_of_getElem? hm)
    have gl := (good m).len
    refine g_name (i := 3) sc_closed.nd ?_
    refine s_cons (s_expr (q_cal CU (hr.mono (by decide)) (a_cons (qv 2 rfl (a_cons (q_ix (qv 3 rfl (q_int ?_))))))))
    refine a_cons (q_ix (qv 3 rfl (q_int ?_)))
    refine a_nil ⟨a, _, e.a, e.b, rfl, aup_same, by rw [gl]; exact hee.1, by rw [gl]; exact hee.2, by omega, ?_⟩
    refine s_nil ⟨_, rfl, ?_⟩
    rw [aup_aup, ends_at m e hm]
    unfold edged
    rw [List.foldl_append]
    rfl
  · rw [show (eW es).length = es.length from by simp [eW], List.take_length] at e2
    subst e1 e2
    have g0 : Good ts.length (edged (List.range ts.length) (ends es)) := by have := good es.length; rw [List.take_length] at this; exact this
    -- the loop: ulLoop with any fuel beyond the sum
    have key : closedM ts (ends es) = ulLoop ts ((edged (List.range ts.length) (ends es)).sum + 1) (edged (List.range ts.length) (ends es)) := rfl
    generalize edged (List.range ts.length) (ends es) = l0 at g0 key ⊢
    refine s_cons (s_while PassesOwn.never (fun ρ' G' => ∃ ls f, ρ' = [some (.ref b), some (.ref c), some (.ref a), v] ∧ G' = aup G a (.lst (nW ls)) ∧ Good ts.length ls ∧ ls.sum < f ∧ closedM ts (ends es) = ulLoop ts f ls) (fun ρ' G' => match G' a with | some (.lst ws) => (ws.map fun x => match x with | .int i => i.toNat | _ => 0).sum | _ => 0) ⟨l0, _, rfl, rfl, g0, Nat.lt_succ_self _, key⟩ ?_)
    rintro ρ' G' ⟨ls, f, rfl, rfl, gl, hf, kf⟩
    have gsum : ∀ ls' : List Nat, (match (aup G a (.lst (nW ls'))) a with | some (.lst ws) => (ws.map fun x => match x with | .int i => i.toNat | _ => 0).sum | _ => 0) = ls'.sum := fun ls' => by
      rw [aup_same]
      show ((nW ls').map _).sum = _
      rw [nW, List.map_map]
      congr 1
      conv => rhs; rw [← List.map_id ls']
      rfl
    refine b_val (q_cal CL hr (a_cons (qv 0 rfl (a_cons (qv 2 rfl (a_nil ⟨b, a, ts, ls, rfl, hab.symm, aup_new ha hT, aup_same, gl, T, ?_⟩))))))
    have PO := pass_ok T.wf gl ts.length (Nat.le_refl _)
    cases f with
    | zero => omega
    | succ f =>
      unfold ulLoop at kf
      refine ifB_of (fun m => ?_) (fun m => ?_)
      · rw [if_pos m] at kf
        have hs : (ulAll ts ls).ls.sum < ls.sum := PO.yes m
        refine s_cons (s_pass (s_nil ⟨⟨(ulAll ts ls).ls, f, rfl, by rw [aup_aup], PO.good, by omega, kf⟩, ?_⟩))
        rw [aup_aup, gsum, gsum]
        exact hs
      · rw [if_neg (by rw [m]; exact Bool.false_ne_true)] at kf
        refine s_cons (s_ret (qv 2 rfl ⟨_, Sub.refl, ?_⟩))
        rw [aup_aup, ← kf]
        exact k a ha
end
end SW
namespace SW
open PySem PySem.Spec L2 AL
/-! ### books -/
inductive Sp where
  | edge (a b p : Int) | like (a b : Int)
def Sp.W : Sp → AL.W
  | .edge a b p => .tup [.str "edge", .int a, .int b, .int p]
  | .like a b => .tup [.str "like", .int a, .int b]
def Sp.fr : Sp → Int
  | .edge a _ _ => a
  | .like a _ => a
def Sp.to : Sp → Int
  | .edge _ b _ => b
  | .like _ b => b
structure Row where
  a : Int
  b : Int
  len : Int
  steps : List Sp
abbrev Ab := List ((Int × Int) × Int)
def lkA (ab : Ab) (k : Int × Int) : Option Int := (ab.find? fun p => decide (p.1 = k)).map (·.2)
def abW (ab : Ab) : List (W × W) := ab.map fun p => (.tup [.int p.1.1, .int p.1.2], .int p.2)
theorem lk_ab (ab : Ab) (a b : Int) : lk (abW ab) (.tup [.int a, .int b]) = (lkA ab (a, b)).map W.int := by
  induction ab with
  | nil => rfl
  | cons p ab ih =>
    show lk ((W.tup [.int p.1.1, .int p.1.2], W.int p.2) :: abW ab) _ = _
    rw [lk_cons, ih]
    unfold lkA
    obtain ⟨⟨x, y⟩, z⟩ := p
    by_cases e : (x, y) = (a, b)
    · rw [if_pos (by cases e; rfl)]; simp [e]
    · rw [if_neg (fun h => e (by simp only [W.tup.injEq, List.cons.injEq, W.int.injEq, and_true] at h; rw [h.1, h.2]))]; simp [e]
def alikeT : Tm → Tm → Bool
  | .of w ks, .of v js => decide (w = v) && decide (ks.length = js.length)
  | _, _ => false
def edgeM (es : List Ed) (a b p : Int) : Option Int :=
  if 0 ≤ p ∧ p < es.length then
    match es[p.toNat]? with
    | some e => if ((e.a : Int) = a ∧ (e.b : Int) = b) ∨ ((e.b : Int) = a ∧ (e.a : Int) = b) then some e.w else none
    | none => none
  else none
def likeStep (ab : Ab) (o : Option Int) (p : Nat × Nat) : Option Int := o.bind fun acc => if p.1 = p.2 then some acc else (lkA ab (p.1, p.2)).map fun v => acc + v
def likeSum (ab : Ab) (zs : List (Nat × Nat)) : Option Int := zs.foldl (likeStep ab) (some 1)
theorem likeSum_none (ab : Ab) (zs : List (Nat × Nat)) : zs.foldl (likeStep ab) none = none := by
  induction zs with
  | nil => rfl
  | cons z zs ih => exact ih
def likeM (ts : List Tm) (ab : Ab) (a b : Int) : Option Int :=
  if 0 ≤ b ∧ b < ts.length then
    if a = b then none else
      match ts[a.toNat]?, ts[b.toNat]? with
      | some t, some u => if alikeT t u = true then likeSum ab ((arms t).zip (arms u)) else none
      | _, _ => none
  else none
def partM (ts : List Tm) (es : List Ed) (ab : Ab) : Sp → Option Int
  | .edge a b p => edgeM es a b p
  | .like a b => likeM ts ab a b
def walkStep (ts : List Tm) (es : List Ed) (ab : Ab) (o : Option (Int × Int)) (s : Sp) : Option (Int × Int) := o.bind fun st => if s.fr = st.1 then (partM ts es ab s).map fun v => (s.to, st.2 + v) else none
def walkM (ts : List Tm) (es : List Ed) (ab : Ab) (a : Int) (steps : List Sp) : Option (Int × Int) := steps.foldl (walkStep ts es ab) (some (a, 0))
theorem walk_none (ts : List Tm) (es : List Ed) (ab : Ab) (steps : List Sp) : steps.foldl (walkStep ts es ab) none = none := by
  induction steps with
  | nil => rfl
  | cons z zs ih => exact ih
def rowM (ts : List Tm) (es : List Ed) (ab : Ab) (r : Row) : Option Int :=
  if 0 ≤ r.a ∧ r.a < ts.length then
    match walkM ts es ab r.a r.steps with
    | some st => if st.1 = r.b then some st.2 else none
    | none => none
  else none
def rowsM (ts : List Tm) (es : List Ed) : List Row → Ab → Bool
  | [], _ => true
  | r :: rs, ab => if (lkA ab (r.a, r.b)).isSome = true then false else if rowM ts es ab r = some r.len then rowsM ts es rs (ab ++ [((r.a, r.b), r.len)]) else false
def holdsM (ts : List Tm) (es : List Ed) (bk : List Row) (a b : Int) : Bool := rowsM ts es bk [] && (match bk.getLast? with | some r => decide (r.a = a ∧ r.b = b) | none => false)
def RowAt (G : AH) (r : Row) (w : W) : Prop := ∃ s, w = .tup [.int r.a, .int r.b, .int r.len, .ref s] ∧ G s = some (.lst (r.steps.map Sp.W))
def BkAt (G : AH) (bk : List Row) (ws : List W) : Prop := Paired (RowAt G) bk ws
structure EsOk (ts : List Tm) (es : List Ed) : Prop where
  ends : ∀ e ∈ es, e.a < ts.length ∧ e.b < ts.length
  many : es.length ≤ 10000

section
variable {P : Program} {w : World} {K : PySem.W.Frag} {mg : Str → Option Value} {base : Heap}
/-! ### alike -/
abbrev sAlike : Stmt := top 1
theorem sc_alike : FnScope ["one", "other"] ["one", "other"] (defScope sAlike) := ⟨rfl, rfl, rfl, by decide +kernel, rfl, by decide +kernel, by decide +kernel⟩
def spAlike : ASp := fun ws G K _ => ∃ t t' : Tm, ws = [t.W, t'.W] ∧ K (.bl (alikeT t t')) G
theorem ok_alike {f : Addr} {fd : FuncData} (F : Fun K "alike" "alike" sAlike f fd) (B : Bl mg) : FnOk P w K mg base CX0 1 f fd ["one", "other"] (low ⟨P, w, K⟩ spAlike) := by
  refine fnA_of F sc_alike (fun ws G Kc KE ⟨t, t', e, _⟩ => by rw [e]; rfl) fun cdv A outer s H E ws G Kc KE hr ⟨t, t', e, k⟩ => ?_
  subst e
  refine s_cons (s_if (WQ.test (w_or (b_ne (u64 hr) (q_ix (qv 0 rfl (q_int ?_)))))))
  cases t with
  | num n => exact q_str (ifB_T (by decide +kernel) (ifT (s_cons (s_ret (q_bl ⟨G, Sub.refl, k⟩)))))
  | name x => exact q_str (ifB_T (by decide +kernel) (ifT (s_cons (s_ret (q_bl ⟨G, Sub.refl, k⟩)))))
  | of wd ks =>
    refine q_str (ifB_F (by decide +kernel) (w_or1 (b_ne (u64 hr) (q_ix (qv 1 rfl (q_int ?_))))))
    cases t' with
    | num n => exact q_str (ifB_T (by decide +kernel) (s_cons (s_ret (q_bl ⟨G, Sub.refl, k⟩))))
    | name x => exact q_str (ifB_T (by decide +kernel) (s_cons (s_ret (q_bl ⟨G, Sub.refl, k⟩))))
    | of vd js =>
      refine q_str (ifB_F (by decide +kernel) (s_nil (s_cons (s_ret (q_and (q_eq (u64 hr) (q_ix (qv 0 rfl (q_int (q_ix (qv 1 rfl (q_int ?_))))))))))))
      have k' : Kc (.bl (decide (wd = vd) && decide (ks.length = js.length))) G := k
      refine ifB_dec (fun e => ?_) (fun e => ?_)
      · refine q_one (q_eq (u64 hr) (q_len B.len (a_cons (q_ix (qv 0 rfl (q_int (a_nil (q_len B.len (a_cons (q_ix (qv 1 rfl (q_int (a_nil ?_)))))))))))))
        refine ⟨G, Sub.refl, ?_⟩
        have e2 : decide (((nW ks).length : Int) = ((nW js).length : Int)) = decide (ks.length = js.length) := by rw [nW_length, nW_length]; exact decide_eq_decide.mpr (by omega)
        rw [decide_eq_true e, Bool.true_and, ← e2] at k'
        exact k'
      · rw [decide_eq_false e, Bool.false_and] at k'
        exact ⟨G, Sub.refl, k'⟩

/-! ### edge_walked -/
abbrev sEw : Stmt := top 3
theorem sc_ew : FnScope ["edges", "step", "edge"] ["edges", "step"] (defScope sEw) := ⟨rfl, rfl, rfl, by decide +kernel, rfl, by decide +kernel, by decide +kernel⟩
def oW (o : Option Int) : W := match o with
  | some i => .int i
  | none => .non
def spEw : ASp := fun ws G K _ => ∃ (c : Addr) (es : List Ed) (a b p : Int), ws = [.ref c, (Sp.edge a b p).W] ∧ G c = some (.lst (eW es)) ∧ es.length ≤ 10000 ∧ K (oW (edgeM es a b p)) G
theorem eW_length (es : List Ed) : (eW es).length = es.length := by simp [eW]
theorem ok_ew {f : Addr} {fd : FuncData} (F : Fun K "edge_walked" "edge_walked" sEw f fd) (B : Bl mg) : FnOk P w K mg base CX0 1 f fd ["edges", "step"] (low ⟨P, w, K⟩ spEw) := by
  refine fnA_of F sc_ew (fun ws G Kc KE ⟨c, es, a, b, p, e, _⟩ => by rw [e]; rfl) fun cdv A outer s H E ws G Kc KE hr ⟨c, es, a, b, p, e, hE, hm, k⟩ => ?_
  subst e
  refine s_cons (s_if (b_not (b_le_lt (q_int (q_ix (qv 1 rfl (q_int ?_)))))))
  have no : ¬ (0 ≤ p ∧ p < (es.length : Int)) → Kc .non G := fun h => by
    unfold edgeM at k; rw [if_neg h] at k; exact k
  refine ifB_dec (fun h0 => ?_) (fun h0 => ?_)
  · refine q_len B.len (a_cons (qv 0 rfl (a_nil ⟨_, hE, ?_⟩)))
    refine ifB_ndec (fun h1 => ?_) (fun h1 => ?_)
    · rw [eW_length] at h1
      exact s_cons (s_ret (q_non ⟨G, Sub.refl, no (by omega)⟩))
    · rw [eW_length] at h1
      obtain ⟨n, rfl⟩ : ∃ n : Nat, p = n := ⟨p.toNat, by omega⟩
      have hn : n < es.length := by omega
      obtain ⟨ed, hed⟩ : ∃ ed, es[n]? = some ed := ⟨es[n], by simp [hn]⟩
      have hw : atI (eW es) (n : Int) = some ed.W := atI_of (by simp [eW, hed])
      have k' : Kc (oW (if ((ed.a : Int) = a ∧ (ed.b : Int) = b) ∨ ((ed.b : Int) = a ∧ (ed.a : Int) = b) then some ed.w else none)) G := by
        unfold edgeM at k
        rw [if_pos (by omega), show (n : Int).toNat = n from rfl, hed] at k
        exact k
      refine s_nil (s_cons (s_set (i := 2) sc_ew.nd (q_ix (qv 0 rfl (q_ix (qv 1 rfl (q_int ?_)))))))
      refine ⟨_, _, hE, hw, ?_⟩
      refine s_cons (s_if (WQ.test (w_or (b_eq (u64 hr) (q_tup (a_cons (q_ix (qv 2 rfl (q_int ?_)))))))))
      refine a_cons (q_ix (qv 2 rfl (q_int ?_)))
      refine a_nil (q_tup (a_cons (q_ix (qv 1 rfl (q_int ?_)))))
      refine a_cons (q_ix (qv 1 rfl (q_int ?_)))
      refine a_nil ⟨rfl, ?_⟩
      have eq2 : ∀ x y z t : Int, eqWs [.int x, .int y] [.int z, .int t] = decide (x = z ∧ y = t) := fun x y z t => by
        simp [eqWs, eqW]
      show ifB (eqWs [.int ed.a, .int ed.b] [.int a, .int b]) _ _
      rw [eq2]
      refine ifB_dec (fun h => ?_) (fun h => ?_)
      · rw [if_pos (.inl h)] at k'
        exact ifT (s_cons (s_ret (q_ix (qv 2 rfl (q_int (show _ from ⟨G, Sub.refl, k'⟩))))))
      · refine w_or1 (b_eq (u64 hr) (q_tup (a_cons (q_ix (qv 2 rfl (q_int ?_))))))
        refine a_cons (q_ix (qv 2 rfl (q_int ?_)))
        refine a_nil (q_tup (a_cons (q_ix (qv 1 rfl (q_int ?_)))))
        refine a_cons (q_ix (qv 1 rfl (q_int ?_)))
        refine a_nil ⟨rfl, ?_⟩
        show ifB (eqWs [.int ed.b, .int ed.a] [.int a, .int b]) _ _
        rw [eq2]
        refine ifB_dec (fun h' => ?_) (fun h' => ?_)
        · rw [if_pos (.inr h')] at k'
          exact s_cons (s_ret (q_ix (qv 2 rfl (q_int (show _ from ⟨G, Sub.refl, k'⟩)))))
        · rw [if_neg (by omega)] at k'
          exact s_nil (s_cons (s_ret (q_non ⟨G, Sub.refl, k'⟩)))
  · exact ifT (s_cons (s_ret (q_non ⟨G, Sub.refl, no (by omega)⟩)))

/-! ### like_walked -/
abbrev sLw : Stmt := top 4
theorem sc_lw : FnScope ["terms", "above", "step", "length", "left", "right"] ["terms", "above", "step"] (defScope sLw) := ⟨rfl, rfl, rfl, by decide +kernel, rfl, by decide +kernel, by decide +kernel⟩
def spLw : ASp := fun ws G K _ => ∃ (b d : Addr) (ts : List Tm) (ab : Ab) (x y : Int), ws = [.ref b, .ref d, (Sp.like x y).W] ∧ G b = some (.lst (tW ts)) ∧ G d = some (.dN (abW ab)) ∧ TsOk ts ∧ (0 ≤ x ∧ x < ts.length) ∧ K (oW (likeM ts ab x y)) G
theorem zi_item {ks js : List Nat} {m : Nat} {x : W} (h : (ziW (nW ks) (nW js))[m]? = some x) : ∃ l r, (ks.zip js)[m]? = some (l, r) ∧ x = .tup [.int (l : Nat), .int (r : Nat)] := by
  rw [ziW, List.getElem?_map] at h
  obtain ⟨p, hp, e⟩ := Option.map_eq_some_iff.mp h
  rw [nW, nW, List.zip_map, List.getElem?_map] at hp
  obtain ⟨q, hq, e'⟩ := Option.map_eq_some_iff.mp hp
  refine ⟨q.1, q.2, hq, ?_⟩
  rw [← e, ← e']; rfl
theorem likeSum_step {ab : Ab} {zs : List (Nat × Nat)} {m : Nat} {p : Nat × Nat} (h : zs[m]? = some p) : (zs.take (m + 1)).foldl (likeStep ab) (some 1) = likeStep ab ((zs.take m).foldl (likeStep ab) (some 1)) p := by
  rw [List.take_succ, h, List.foldl_append]; rfl
theorem likeSum_stop {ab : Ab} {zs : List (Nat × Nat)} {m : Nat} (h : (zs.take m).foldl (likeStep ab) (some 1) = none) : likeSum ab zs = none := by
  unfold likeSum
  rw [← List.take_append_drop m zs, List.foldl_append, h]
  exact likeSum_none ab _
theorem ok_lw {f : Addr} {fd : FuncData} (F : Fun K "like_walked" "like_walked" sLw f fd) (B : Bl mg) (CA : Cal P w K mg base "alike" 1 ["one", "other"] spAlike) : FnOk P w K mg base CX0 2 f fd ["terms", "above", "step"] (low ⟨P, w, K⟩ spLw) := by
  refine fnA_of F sc_lw (fun ws G Kc KE ⟨b, d, ts, ab, x, y, e, _⟩ => by rw [e]; rfl) fun cdv A outer s H E ws G Kc KE hr ⟨b, d, ts, ab, x, y, e, hT, hD, T, hx, k⟩ => ?_
  subst e
  obtain ⟨n, rfl⟩ : ∃ n : Nat, x = n := ⟨x.toNat, by omega⟩
  refine s_cons (s_if (WQ.test (w_or (b_not (b_le_lt (q_int (q_ix (qv 2 rfl (q_int ?_)))))))))
  have no : ¬ (0 ≤ y ∧ y < (ts.length : Int)) → Kc .non G := fun h => by
    unfold likeM at k; rw [if_neg h] at k; exact k
  refine ifB_dec (fun h0 => ?_) (fun h0 => ?_)
  · refine q_len B.len (a_cons (qv 0 rfl (a_nil ⟨_, hT, ?_⟩)))
    refine ifB_ndec (fun h1 => ?_) (fun h1 => ?_)
    · rw [tW_length] at h1
      exact ifT (s_cons (s_ret (q_non ⟨G, Sub.refl, no (by omega)⟩)))
    · rw [tW_length] at h1
      refine w_or1 (b_eq (u64 hr) (q_ix (qv 2 rfl (q_int ?_))))
      refine q_ix (qv 2 rfl (q_int ?_))
      refine ifB_dec (fun h2 => ?_) (fun h2 => ?_)
      · refine s_cons (s_ret (q_non ⟨G, Sub.refl, ?_⟩))
        unfold likeM at k
        rw [if_pos (by omega), if_pos h2] at k
        exact k
      · obtain ⟨m, rfl⟩ : ∃ m : Nat, y = m := ⟨y.toNat, by omega⟩
        have hn : n < ts.length := by omega
        have hm : m < ts.length := by omega
        obtain ⟨t, ht⟩ : ∃ t, ts[n]? = some t := ⟨ts[n], by simp [hn]⟩
        obtain ⟨u, hu⟩ : ∃ u, ts[m]? = some u := ⟨ts[m], by simp [hm]⟩
        have k' : Kc (oW (if alikeT t u = true then likeSum ab ((arms t).zip (arms u)) else none)) G := by
          unfold likeM at k
          rw [if_pos (by omega), if_neg h2, show (n : Int).toNat = n from rfl, show (m : Int).toNat = m from rfl, ht, hu] at k
          exact k
        refine s_nil (s_cons (s_if (b_not (b_val (q_cal CA hr (a_cons (q_ix (qv 0 rfl (q_ix (qv 2 rfl (q_int ?_)))))))))))
        refine ⟨_, _, hT, tW_at ht, ?_⟩
        refine a_cons (q_ix (qv 0 rfl (q_ix (qv 2 rfl (q_int ?_)))))
        refine ⟨_, _, hT, tW_at hu, ?_⟩
        refine a_nil ⟨t, u, rfl, ?_⟩
        refine ifB_of (fun q => ?_) (fun q => ?_)
        · have q' : ¬ alikeT t u = true := by simpa using q
          rw [if_neg q'] at k'
          exact s_cons (s_ret (q_non ⟨G, Sub.refl, k'⟩))
        · have q' : alikeT t u = true := by simpa using q
          rw [if_pos q'] at k'
          obtain ⟨w1, ks, rfl⟩ : ∃ w ks, t = .of w ks := by cases t <;> first | exact ⟨_, _, rfl⟩ | (cases u <;> simp [alikeT] at q')
          obtain ⟨w2, js, rfl⟩ : ∃ w ks, u = .of w ks := by cases u <;> first | exact ⟨_, _, rfl⟩ | simp [alikeT] at q'
          refine s_nil (s_cons (s_set (i := 3) sc_lw.nd (q_int ?_)))
          refine s_cons (s_for PassesOwn.never rfl (i_zipT rfl B.zip (q_ix (q_ix (qv 0 rfl (q_ix (qv 2 rfl (q_int ?_))))))))
          refine ⟨_, _, hT, tW_at ht, ?_⟩
          refine q_int ?_
          refine q_ix (q_ix (qv 0 rfl (q_ix (qv 2 rfl (q_int ?_)))))
          refine ⟨_, _, hT, tW_at hu, ?_⟩
          refine q_int ?_
          have hl : (ziW (nW ks) (nW js)).length = (ks.zip js).length := by rw [ziW_length, nW_length, nW_length, List.length_zip]
          refine ⟨fun i ρ' G' => ∃ acc v v', ((ks.zip js).take i).foldl (likeStep ab) (some 1) = some acc ∧ ρ' = [some (.ref b), some (.ref d), some (Sp.like n m).W, some (.int acc), v, v'] ∧ G' = G, ⟨1, none, none, rfl, rfl, rfl⟩, fun _ _ _ _ _ => trivial, fun i x ρ' G' hx ⟨acc, v, v', e0, e1, e2⟩ => ?_, fun ρ' G' ⟨acc, v, v', e0, e1, e2⟩ => ?_⟩
          · obtain ⟨l, r, hz, rfl⟩ := zi_item hx
            subst e1 e2
            refine g_tup rfl (gs_cons (g_name (i := 4) sc_lw.nd (gs_cons (g_name (i := 5) sc_lw.nd (gs_nil ?_)))))
            have st := likeSum_step (ab := ab) hz
            rw [e0] at st
            refine s_cons (s_if (b_ne (u64 hr) (qv 4 rfl (qv 5 rfl ?_))))
            refine ifB_ndec (fun h => ?_) (fun h => ?_)
            · have hlr : ¬ l = r := fun z => h (by rw [z])
              refine s_cons (s_if (b_dninN (u9 hr) (q_tup (a_cons (qv 4 rfl (a_cons (qv 5 rfl (a_nil (qv 1 rfl ⟨_, hD, rfl, ?_⟩)))))))))
              rw [lk_ab]
              cases hab : lkA ab (l, r) with
              | none =>
                refine ifT (s_cons (s_ret (q_non ⟨G', Sub.refl, ?_⟩)))
                have : likeSum ab (ks.zip js) = none := likeSum_stop (m := i + 1) (by rw [st]; unfold likeStep; simp [hlr, hab])
                rw [show (arms (Tm.of w1 ks)).zip (arms (Tm.of w2 js)) = ks.zip js from rfl, this] at k'
                exact k'
              | some v =>
                refine ifF (s_nil (s_cons (s_addI (i := 3) (z := acc) sc_lw.nd rfl (q_dgetN (u9 hr) (qv 1 rfl (q_tup (a_cons (qv 4 rfl (a_cons (qv 5 rfl (a_nil ⟨_, W.int v, hD, rfl, by rw [lk_ab, hab]; rfl, ?_⟩)))))))))))
                refine s_nil (s_nil ⟨acc + v, some (.int l), some (.int r), ?_, rfl, rfl⟩)
                rw [st]; unfold likeStep; simp [hlr, hab]
            · have hlr : l = r := by omega
              refine s_nil (s_nil ⟨acc, some (.int l), some (.int r), ?_, rfl, rfl⟩)
              rw [st]; unfold likeStep; simp [hlr]
          · rw [hl, List.take_length] at e0
            subst e1 e2
            refine s_cons (s_ret (qv 3 rfl ⟨G', Sub.refl, ?_⟩))
            rw [show (arms (Tm.of w1 ks)).zip (arms (Tm.of w2 js)) = ks.zip js from rfl, show likeSum ab (ks.zip js) = some acc from e0] at k'
            exact k'
  · exact ifT (ifT (s_cons (s_ret (q_non ⟨G, Sub.refl, no (by omega)⟩))))
end
end SW
namespace SW
open PySem PySem.Spec L2 AL
theorem walk_step {ts : List Tm} {es : List Ed} {ab : Ab} {a : Int} {zs : List Sp} {m : Nat} {p : Sp} (h : zs[m]? = some p) : walkM ts es ab a (zs.take (m + 1)) = walkStep ts es ab (walkM ts es ab a (zs.take m)) p := by
  unfold walkM
  rw [List.take_succ, h, List.foldl_append]; rfl
theorem walk_stop {ts : List Tm} {es : List Ed} {ab : Ab} {a : Int} {zs : List Sp} {m : Nat} (h : walkM ts es ab a (zs.take m) = none) : walkM ts es ab a zs = none := by
  unfold walkM at h ⊢
  rw [← List.take_append_drop m zs, List.foldl_append, h]
  exact walk_none ts es ab _
theorem edge_in {ts : List Tm} {es : List Ed} (E : EsOk ts es) {a b p v : Int} (h : edgeM es a b p = some v) : 0 ≤ b ∧ b < ts.length := by
  unfold edgeM at h
  split at h
  · split at h
    · rename_i e he
      have := E.ends e (List.mem_of_getElem? he)
      split at h
      · rename_i hh; omega
      · cases h
    · cases h
  · cases h
theorem like_in {ts : List Tm} {ab : Ab} {a b v : Int} (h : likeM ts ab a b = some v) : 0 ≤ b ∧ b < ts.length := by
  unfold likeM at h
  split at h
  · assumption
  · cases h
section
variable {P : Program} {w : World} {K : PySem.W.Frag} {mg : Str → Option Value} {base : Heap}
abbrev sRw : Stmt := top 5
theorem sc_rw : FnScope ["terms", "edges", "above", "row", "at", "length", "step", "part"] ["terms", "edges", "above", "row"] (defScope sRw) := ⟨rfl, rfl, rfl, by decide +kernel, rfl, by decide +kernel, by decide +kernel⟩
def rowW (r : Row) (s : Addr) : W := .tup [.int r.a, .int r.b, .int r.len, .ref s]
def spRw : ASp := fun ws G K _ => ∃ (b c d s : Addr) (ts : List Tm) (es : List Ed) (ab : Ab) (r : Row), ws = [.ref b, .ref c, .ref d, rowW r s] ∧ G b = some (.lst (tW ts)) ∧ G c = some (.lst (eW es)) ∧ G d = some (.dN (abW ab)) ∧ G s = some (.lst (r.steps.map Sp.W)) ∧ TsOk ts ∧ EsOk ts es ∧ K (oW (rowM ts es ab r)) G
theorem ok_rw {f : Addr} {fd : FuncData} (F : Fun K "row_walked" "row_walked" sRw f fd) (B : Bl mg) (CE : Cal P w K mg base "edge_walked" 1 ["edges", "step"] spEw) (CL : Cal P w K mg base "like_walked" 2 ["terms", "above", "step"] spLw) : FnOk P w K mg base CX0 3 f fd ["terms", "edges", "above", "row"] (low ⟨P, w, K⟩ spRw) := by
  refine fnA_of F sc_rw (fun ws G Kc KE ⟨b, c, d, s, ts, es, ab, r, e, _⟩ => by rw [e]; rfl) fun cdv A outer s0 H E ws G Kc KE hr ⟨b, c, d, s, ts, es, ab, r, e, hT, hE, hD, hS, T, EO, k⟩ => ?_
  subst e
  refine s_cons (s_if (b_not (b_le_lt (q_int (q_ix (qv 3 rfl (q_int ?_)))))))
  have no : ¬ (0 ≤ r.a ∧ r.a < (ts.length : Int)) → Kc .non G := fun h => by
    unfold rowM at k; rw [if_neg h] at k; exact k
  refine ifB_dec (fun h0 => ?_) (fun h0 => ?_)
  · refine q_len B.len (a_cons (qv 0 rfl (a_nil ⟨_, hT, ?_⟩)))
    refine ifB_ndec (fun h1 => ?_) (fun h1 => ?_)
    · rw [tW_length] at h1
      exact s_cons (s_ret (q_non ⟨G, Sub.refl, no (by omega)⟩))
    · rw [tW_length] at h1
      have k' : Kc (oW (match walkM ts es ab r.a r.steps with
          | some st => if st.1 = r.b then some st.2 else none
          | none => none)) G := by
        unfold rowM at k; rw [if_pos ⟨h0, h1⟩] at k; exact k
      refine s_nil (s_cons (s_set (i := 4) sc_rw.nd (q_ix (qv 3 rfl (q_int ?_)))))
      refine s_cons (s_set (i := 5) sc_rw.nd (q_int ?_))
      refine s_cons (s_for PassesOwn.never rfl (i_list (q_ix (qv 3 rfl (q_int ⟨s, _, rfl, hS, ?_⟩)))))
      refine ⟨fun i ρ' G' => ∃ at' len v v', walkM ts es ab r.a (r.steps.take i) = some (at', len) ∧ (0 ≤ at' ∧ at' < ts.length) ∧ ρ' = [some (.ref b), some (.ref c), some (.ref d), some (rowW r s), some (.int at'), some (.int len), v, v'] ∧ G' = G, ⟨r.a, 0, none, none, rfl, ⟨h0, h1⟩, rfl, rfl⟩, fun i ρ' G' _ ⟨_, _, _, _, _, _, _, e2⟩ => by rw [e2]; exact hS, fun i x ρ' G' hx ⟨at', len, v, v', e0, hat, e1, e2⟩ => ?_, fun ρ' G' ⟨at', len, v, v', e0, hat, e1, e2⟩ => ?_⟩
      · obtain ⟨sp, hsp, rfl⟩ : ∃ sp, r.steps[i]? = some sp ∧ sp.W = x := by
          rw [List.getElem?_map] at hx
          exact Option.map_eq_some_iff.mp hx
        subst e1 e2
        have st := walk_step (ts := ts) (es := es) (ab := ab) (a := r.a) hsp
        rw [e0] at st
        refine g_name (i := 6) sc_rw.nd ?_
        have st2 : walkM ts es ab r.a (r.steps.take (i + 1)) = if sp.fr = at' then (partM ts es ab sp).map fun v => (sp.to, len + v) else none := st
        have stop : walkM ts es ab r.a (r.steps.take (i + 1)) = none → Kc .non G' := fun h => by
          rw [walk_stop h] at k'; exact k'
        refine s_cons (s_if (b_ne (u64 hr) (q_ix (qv 6 rfl (q_int ?_)))))
        have w1 : sp.W = .tup [.str (match sp with | .edge _ _ _ => "edge" | .like _ _ => "like"), .int sp.fr, .int sp.to] ∨ ∃ p, sp.W = .tup [.str (match sp with | .edge _ _ _ => "edge" | .like _ _ => "like"), .int sp.fr, .int sp.to, .int p] := by
          cases sp with
          | edge a b p => exact .inr ⟨p, rfl⟩
          | like a b => exact .inl rfl
        have go : ∀ K : W → AH → Prop, (K (.int sp.fr) G') → fIx sp.W (.int 1) G' K := fun K h => by
          cases sp <;> exact h
        have go2 : ∀ K : W → AH → Prop, (K (.int sp.to) G') → fIx sp.W (.int 2) G' K := fun K h => by
          cases sp <;> exact h
        refine go _ (qv 4 rfl ?_)
        refine ifB_ndec (fun h => ?_) (fun h => ?_)
        · rw [if_neg h] at st2
          exact s_cons (s_ret (q_non ⟨G', Sub.refl, stop st2⟩))
        · rw [if_pos h] at st2
          refine s_nil (s_cons (s_cut (P := fun ρ2 G2 => ρ2 = [some (.ref b), some (.ref c), some (.ref d), some (rowW r s), some (.int at'), some (.int len), some sp.W, some (oW (partM ts es ab sp))] ∧ G2 = G') ?_ ?_))
          · refine s_set (i := 7) sc_rw.nd (q_if (b_eq (u64 hr) (q_ix (qv 6 rfl (q_int ?_)))))
            cases sp with
            | edge x y p =>
              refine q_str (ifB_T (by decide +kernel) ?_)
              exact q_cal CE (hr.mono (by decide)) (a_cons (qv 1 rfl (a_cons (qv 6 rfl (a_nil ⟨c, es, x, y, p, rfl, hE, EO.many, rfl, rfl⟩)))))
            | like x y =>
              refine q_str (ifB_F (by decide +kernel) ?_)
              exact q_cal CL hr (a_cons (qv 0 rfl (a_cons (qv 2 rfl (a_cons (qv 6 rfl (a_nil ⟨b, d, ts, ab, x, y, rfl, hT, hD, T, by rw [← h] at hat; exact hat, rfl, rfl⟩)))))))
          · rintro ρ2 G2 ⟨rfl, rfl⟩
            have into : ∀ v, partM ts es ab sp = some v → 0 ≤ sp.to ∧ sp.to < ts.length := fun v hv => by
              cases sp with
              | edge x y p => exact edge_in EO hv
              | like x y => exact like_in hv
            refine s_cons (s_if (b_is (qv 7 rfl (q_non ?_))))
            generalize ho : partM ts es ab sp = o at st2 into ⊢
            cases o with
            | none => exact ifT (s_cons (s_ret (q_non ⟨G2, Sub.refl, stop st2⟩)))
            | some v2 =>
              refine ifF (s_nil (s_cons (s_addI (i := 5) (z := len) sc_rw.nd rfl (qv 7 rfl ?_))))
              refine s_cons (s_set (i := 4) sc_rw.nd (q_ix (qv 6 rfl (q_int (go2 _ ?_)))))
              exact s_nil ⟨sp.to, len + v2, some sp.W, some (.int v2), st2, into v2 rfl, rfl, rfl⟩
      · rw [List.length_map, List.take_length] at e0
        subst e1 e2
        rw [e0] at k'
        refine s_cons (s_ret (q_if (b_eq (u64 hr) (qv 4 rfl (q_ix (qv 3 rfl (q_int ?_)))))))
        refine ifB_dec (fun h => ?_) (fun h => ?_)
        · have k2 : Kc (oW (if at' = r.b then some len else none)) G' := k'
          rw [if_pos h] at k2
          exact qv 5 rfl ⟨G', Sub.refl, k2⟩
        · have k2 : Kc (oW (if at' = r.b then some len else none)) G' := k'
          rw [if_neg h] at k2
          exact q_non ⟨G', Sub.refl, k2⟩
  · exact ifT (s_cons (s_ret (q_non ⟨G, Sub.refl, no (by omega)⟩)))

/-! ### holds -/
abbrev sHd : Stmt := top 6
theorem sc_hd : FnScope ["terms", "edges", "book", "a", "b", "above", "row"] ["terms", "edges", "book", "a", "b"] (defScope sHd) := ⟨rfl, rfl, rfl, by decide +kernel, rfl, by decide +kernel, by decide +kernel⟩
def spHd : ASp := fun ws G K _ => ∃ (b c e : Addr) (ts : List Tm) (es : List Ed) (bk : List Row) (bs : List W) (x y : Int), ws = [.ref b, .ref c, .ref e, .int x, .int y] ∧ G b = some (.lst (tW ts)) ∧ G c = some (.lst (eW es)) ∧ G e = some (.lst bs) ∧ BkAt G bk bs ∧ bk.length ≤ 10000 ∧ TsOk ts ∧ EsOk ts es ∧ K (.bl (holdsM ts es bk x y)) G
/-- the book down to its i-th row -/
def abAt (rs : List Row) (i : Nat) : Ab := (rs.take i).map fun r => ((r.a, r.b), r.len)
theorem rowsM_cons {ts : List Tm} {es : List Ed} {r : Row} {rs : List Row} {ab : Ab} : rowsM ts es (r :: rs) ab = if (lkA ab (r.a, r.b)).isSome = true then false else if rowM ts es ab r = some r.len then rowsM ts es rs (ab ++ [((r.a, r.b), r.len)]) else false := rfl
theorem ab_next {bk : List Row} {i : Nat} {r : Row} (h : bk[i]? = some r) : abAt bk (i + 1) = abAt bk i ++ [((r.a, r.b), r.len)] := by
  unfold abAt
  rw [List.take_succ, h, List.map_append]; rfl
theorem drop_of {α : Type} {xs : List α} {i : Nat} {x : α} (h : xs[i]? = some x) : xs.drop i = x :: xs.drop (i + 1) := by
  obtain ⟨l, e⟩ := List.getElem?_eq_some_iff.mp h
  rw [List.drop_eq_getElem_cons l, e]
theorem paired_at {α β : Type} {R : α → β → Prop} : ∀ {xs : List α} {ys : List β}, Paired R xs ys → ∀ {i : Nat} {y : β}, ys[i]? = some y → ∃ x, xs[i]? = some x ∧ R x y
  | _, _, .nil, i, y, h => by simp at h
  | _, _, .cons p q, 0, y, h => by cases h; exact ⟨_, rfl, p⟩
  | _, _, .cons p q, i + 1, y, h => paired_at q h
theorem ok_hd {f : Addr} {fd : FuncData} (F : Fun K "holds" "holds" sHd f fd) (B : Bl mg) (CR : Cal P w K mg base "row_walked" 3 ["terms", "edges", "above", "row"] spRw) : FnOk P w K mg base CX0 4 f fd ["terms", "edges", "book", "a", "b"] (low ⟨P, w, K⟩ spHd) := by
  refine fnA_of F sc_hd (fun ws G Kc KE ⟨b, c, e, ts, es, bk, bs, x, y, q, _⟩ => by rw [q]; rfl) fun cdv A outer s0 H E ws G Kc KE hr ⟨b, c, e, ts, es, bk, bs, x, y, q, hT, hE, hB, pB, hn, T, EO, k⟩ => ?_
  subst q
  refine s_cons (s_set (i := 5) sc_hd.nd (q_dnewN fun d hd => ?_))
  have hdb : d ≠ b := (ane_none hT hd).symm
  have hdc : d ≠ c := (ane_none hE hd).symm
  have hde : d ≠ e := (ane_none hB hd).symm
  have lB : bk.length = bs.length := Paired.length pB
  refine s_cons (s_for PassesOwn.never rfl (i_list (qv 2 rfl ⟨e, _, rfl, aup_new hd hB, ?_⟩)))
  refine ⟨fun i ρ' G' => ∃ v, ρ' = [some (.ref b), some (.ref c), some (.ref e), some (.int x), some (.int y), some (.ref d), v] ∧ G' = aup G d (.dN (abW (abAt bk i))) ∧ rowsM ts es bk [] = rowsM ts es (bk.drop i) (abAt bk i), ⟨none, rfl, rfl, rfl⟩, fun i ρ' G' _ ⟨_, _, e2, _⟩ => by rw [e2]; exact aup_new hd hB, fun i z ρ' G' hz ⟨v, e1, e2, e3⟩ => ?_, fun ρ' G' ⟨v, e1, e2, e3⟩ => ?_⟩
  · obtain ⟨r, hrow, s, rfl, hS⟩ := paired_at pB hz
    subst e1 e2
    refine g_name (i := 6) sc_hd.nd ?_
    rw [drop_of hrow] at e3
    rw [rowsM_cons] at e3
    have bad : rowsM ts es bk [] = false → ∃ G'', Sub G'' (aup G d (.dN (abW (abAt bk i)))) ∧ Kc (.bl false) G'' := fun h => by
      refine ⟨G, Sub.new hd, ?_⟩
      unfold holdsM at k
      rw [h, Bool.false_and] at k
      exact k
    have hle : (abW (abAt bk i)).length ≤ 10000 := by
      unfold abW abAt
      rw [List.length_map, List.length_map, List.length_take]; omega
    refine s_cons (s_if (WQ.test (w_or (b_dinN (u9 hr) (q_tup (a_cons (q_ix (qv 6 rfl (q_int ?_)))))))))
    refine a_cons (q_ix (qv 6 rfl (q_int ?_)))
    refine a_nil (qv 5 rfl ⟨_, aup_same, rfl, ?_⟩)
    rw [lk_ab]
    have lks : ((lkA (abAt bk i) (r.a, r.b)).map W.int).isSome = (lkA (abAt bk i) (r.a, r.b)).isSome := by simp
    refine ifB_of (fun h => ?_) (fun h => ?_)
    · have h : ((lkA (abAt bk i) (r.a, r.b)).map W.int).isSome = true := h
      rw [lks] at h
      rw [if_pos h] at e3
      exact ifT (s_cons (s_ret (q_bl (bad e3))))
    · have h : ((lkA (abAt bk i) (r.a, r.b)).map W.int).isSome = false := h
      rw [lks] at h
      rw [if_neg (by rw [h]; exact Bool.false_ne_true)] at e3
      refine w_or1 (b_ne (u64 hr) (q_cal CR hr (a_cons (qv 0 rfl (a_cons (qv 1 rfl (a_cons (qv 5 rfl (a_cons (qv 6 rfl (a_nil ⟨b, c, d, s, ts, es, abAt bk i, r, rfl, aup_new hd hT, aup_new hd hE, aup_same, aup_new hd hS, T, EO, ?_⟩)))))))))))
      refine q_ix (qv 6 rfl (q_int ?_))
      by_cases h2 : rowM ts es (abAt bk i) r = some r.len
      case neg =>
        rw [if_neg h2] at e3
        cases ho : rowM ts es (abAt bk i) r with
        | none => exact ifT (s_cons (s_ret (q_bl (bad e3))))
        | some v2 => exact ifB_ndec (fun _ => s_cons (s_ret (q_bl (bad e3)))) fun z => absurd (by rw [ho, z]) h2
      case pos =>
        rw [if_pos h2] at e3
        rw [h2]
        refine ifB_ndec (fun z => absurd rfl z) fun _ => ?_
        refine s_nil (s_cons (s_asg (q_ix (qv 6 rfl (q_int ?_)))))
        refine g_dputN (u9 hr) (qv 5 rfl (q_tup (a_cons (q_ix (qv 6 rfl (q_int ?_))))))
        refine a_cons (q_ix (qv 6 rfl (q_int ?_)))
        refine a_nil ⟨_, aup_same, rfl, Nat.lt_of_le_of_lt hle (by decide), ?_⟩
        refine s_nil ⟨_, rfl, ?_, ?_⟩
        · rw [aup_aup, pk_new _ (by rw [lk_ab]; cases hh : lkA (abAt bk i) (r.a, r.b) with | none => rfl | some v2 => rw [hh] at h; cases h), ab_next hrow]
          unfold abW
          rw [List.map_append]
          rfl
        · rw [e3, ab_next hrow]
  · have e0 : (abAt bk bs.length) = abAt bk bk.length := by rw [lB]
    rw [← lB, List.drop_length] at e3
    have e3 : rowsM ts es bk [] = true := e3
    subst e1 e2
    have k' : Kc (.bl (match bk.getLast? with | some r => decide (r.a = x ∧ r.b = y) | none => false)) G := by
      unfold holdsM at k
      rw [e3, Bool.true_and] at k
      exact k
    refine s_cons (s_ret (q_and (q_gt (q_len B.len (a_cons (qv 2 rfl (a_nil ⟨_, aup_new hd hB, ?_⟩)))))))
    refine q_int ?_
    refine ifB_dec (fun h => ?_) (fun h => ?_)
    · have hb : 0 < bk.length := by omega
      obtain ⟨r, hrl⟩ : ∃ r, bk.getLast? = some r := ⟨bk.getLast (List.ne_nil_of_length_pos hb), List.getLast?_eq_some_getLast _⟩
      have hri : bk[bk.length - 1]? = some r := by rw [← List.getLast?_eq_getElem?]; exact hrl
      obtain ⟨w1, hw1⟩ : ∃ w1, bs[bk.length - 1]? = some w1 := ⟨bs[bk.length - 1], List.getElem?_eq_getElem _⟩
      obtain ⟨r', hr', s, rfl, hS⟩ := paired_at pB hw1
      cases hri.symm.trans hr'
      rw [hrl] at k'
      have lastAt : atI bs (-1) = some (.tup [.int r.a, .int r.b, .int r.len, .ref s]) := by
        have : ixN bs.length (-1) = some (bk.length - 1) := by
          unfold ixN
          rw [if_neg (by omega), if_pos (by omega)]
          congr 1
          omega
        unfold atI
        rw [this]
        exact hw1
      refine q_one (q_eq (u64 hr) (q_tup (a_cons (q_ix (q_ix (qv 2 rfl (q_neg (q_int ?_))))))))
      refine ⟨_, _, aup_new hd hB, lastAt, ?_⟩
      refine q_int ?_
      refine a_cons (q_ix (q_ix (qv 2 rfl (q_neg (q_int ?_)))))
      refine ⟨_, _, aup_new hd hB, lastAt, ?_⟩
      refine q_int ?_
      refine a_nil (q_tup (a_cons (qv 3 rfl (a_cons (qv 4 rfl (a_nil ⟨rfl, G, Sub.new hd, ?_⟩))))))
      have eq2 : eqWs [.int r.a, .int r.b] [.int x, .int y] = decide (r.a = x ∧ r.b = y) := by simp [eqWs, eqW]
      show Kc (.bl (eqWs [.int r.a, .int r.b] [.int x, .int y])) G
      rw [eq2]
      exact k'
    · have hb : bk.length = 0 := by omega
      have hb : bk = [] := List.eq_nil_of_length_eq_zero hb
      subst hb
      exact ⟨G, Sub.new hd, k'⟩
end
end SW
namespace SW
open PySem PySem.Spec L2 AL
def BoxOk (n : Nat) (B : List W) : Prop := ∃ x y z : Int, B = [.int x, .int y, .int z] ∧ 0 ≤ x ∧ 0 ≤ y ∧ y < 2147483648 ∧ 0 ≤ z ∧ z + n ≤ 1000000
theorem BoxOk.less {n m : Nat} {B : List W} (h : BoxOk n B) (l : m ≤ n) : BoxOk m B := by
  obtain ⟨x, y, z, e, h1, h2, h3, h4, h5⟩ := h
  exact ⟨x, y, z, e, h1, h2, h3, h4, by omega⟩
def BoxAt (G : AH) (a : Addr) (n : Nat) : Prop := ∃ B, G a = some (.lst B) ∧ BoxOk n B
theorem BoxAt.less {G : AH} {a : Addr} {n m : Nat} (h : BoxAt G a n) (l : m ≤ n) : BoxAt G a m := let ⟨B, h1, h2⟩ := h; ⟨B, h1, h2.less l⟩
theorem BoxAt.at {G G' : AH} {a : Addr} {n : Nat} (h : BoxAt G a n) (e : G' a = G a) : BoxAt G' a n := let ⟨B, h1, h2⟩ := h; ⟨B, e.trans h1, h2⟩
theorem BoxAt.new {G : AH} {a p : Addr} {n : Nat} {o : AO} (h : BoxAt G a n) (hp : G p = none) : BoxAt (aup G p o) a n := let ⟨B, h1, h2⟩ := h; ⟨B, aup_new hp h1, h2⟩
theorem BoxAt.old {G : AH} {a p : Addr} {n : Nat} {o : AO} (h : BoxAt G a n) (hp : a ≠ p) : BoxAt (aup G p o) a n := let ⟨B, h1, h2⟩ := h; ⟨B, aup_old hp h1, h2⟩
theorem mulok {i j : Int} (h : -(2 ^ 64) < i) (h' : i < 2 ^ 64) : IntMulOk i j := CMul.ok (.inl ⟨h, h'⟩)
theorem mulokR {i j : Int} (h : -(2 ^ 64) < j) (h' : j < 2 ^ 64) : IntMulOk i j := CMul.ok (.inr ⟨h, h'⟩)
theorem divp_small {i j : Int} (h : 0 < j) (h' : j < 2 ^ 64) : CDivP i j := ⟨h, PyProof.noPylong_of_log2 (by
  have : j.natAbs.log2 < 64 := by
    by_cases z : j.natAbs = 0
    · rw [z]; decide
    · exact (Nat.log2_lt z).mpr (by omega)
  omega)⟩
theorem b01 (b : Bool) : 0 ≤ (if b = true then (1 : Int) else 0) ∧ (if b = true then (1 : Int) else 0) < 2 := by cases b <;> decide
theorem mulok01 (i : Int) (b : Bool) : IntMulOk i (if b = true then (1 : Int) else 0) := mulokR (by have := (b01 b).1; omega) (by have := (b01 b).2; omega)
section
variable {P : Program} {w : World} {K : PySem.W.Frag} {mg : Str → Option Value} {base : Heap}
abbrev sBox : Stmt := top 13
theorem sc_box : FnScope ["script", "k", "cell"] ["script", "k"] (defScope sBox) := ⟨rfl, rfl, rfl, by decide +kernel, rfl, by decide +kernel, by decide +kernel⟩
def spBox : ASp := fun ws G K _ => ∃ (a : Addr) (ns : List Int) (k : Nat), ws = [.ref a, .int k] ∧ G a = some (.lst (ns.map W.int)) ∧ k ≤ 100000 ∧ ∀ (p : Addr) (B : List W), G p = none → BoxOk 1000000 B → K (.ref p) (aup G p (.lst B))
theorem ok_box {f : Addr} {fd : FuncData} (F : Fun K "_law_box" "_law_box" sBox f fd) (B : Bl mg) : FnOk P w K mg base CX0 1 f fd ["script", "k"] (low ⟨P, w, K⟩ spBox) := by
  refine fnA_of F sc_box (fun ws G Kc KE ⟨a, ns, k, e, _⟩ => by rw [e]; rfl) fun cdv A outer s H E ws G Kc KE hr ⟨a, ns, k, e, hA, hk, kk⟩ => ?_
  subst e
  refine s_cons (s_set (i := 2) sc_box.nd (q_int ?_))
  refine s_cons (s_cut (P := fun ρ' G' => ∃ c : Int, ρ' = [some (.ref a), some (.int k), some (.int c)] ∧ G' = G) ?_ ?_)
  · refine s_if (b_lt (qv 1 rfl (q_len B.len (a_cons (qv 0 rfl (a_nil ⟨_, hA, ?_⟩))))))
    rw [List.length_map]
    refine ifB_dec (fun h => ?_) (fun h => ?_)
    · have hk2 : k < ns.length := by omega
      refine s_cons (s_set (i := 2) sc_box.nd (q_ix (qv 0 rfl (qv 1 rfl ⟨_, .int (ns.getD k 0), hA, atI_of (by simp [List.getD, hk2]), ?_⟩))))
      exact s_nil ⟨_, rfl, rfl⟩
    · exact s_nil ⟨0, rfl, rfl⟩
  · rintro ρ' G' ⟨c, rfl, rfl⟩
    refine s_cons (s_ret (q_lst (a_cons (q_mul (q_abs B.abs (a_cons (qv 2 rfl (a_nil ?_))))))))
    generalize hab : (if c < 0 then -c else c) = ac
    have ac0 : 0 ≤ ac := by split at hab <;> omega
    refine q_int1 B.int (a_cons (q_ge (q_abs B.abs (a_cons (qv 2 rfl (a_nil ?_))))))
    rw [hab]
    refine q_pow (q_int (q_int ⟨⟨by decide, by decide, by decide⟩, ?_⟩))
    refine a_nil ⟨mulok01 _ _, ?_⟩
    refine a_cons (q_mod (q_add (qv 2 rfl (q_mul (q_mul (q_int (qv 1 rfl ⟨mulok (by decide) (by decide), ?_⟩)))))))
    refine qv 1 rfl ⟨mulokR (by omega) (by omega), ?_⟩
    refine q_int ⟨by show (0 : Int) < 2147483647; decide, ?_⟩
    refine a_cons (q_int (a_nil fun p hp => ?_))
    refine ⟨_, Sub.refl, kk p _ hp ⟨_, _, 0, rfl, ?_, Int.emod_nonneg _ (by decide), Int.lt_of_lt_of_le (Int.emod_lt_of_pos _ (by decide)) (by decide), by decide, by decide⟩⟩
    exact Int.mul_nonneg ac0 (b01 _).1

abbrev sTake : Stmt := top 14
theorem sc_take : FnScope ["box", "many", "found", "once"] ["box", "many"] (defScope sTake) := ⟨rfl, rfl, rfl, by decide +kernel, rfl, by decide +kernel, by decide +kernel⟩
/-- taken from the box: any number below many; the box has one less left -/
def spTake : ASp := fun ws G K _ => ∃ (a : Addr) (n : Nat) (many : Int), ws = [.ref a, .int many] ∧ BoxAt G a (n + 1) ∧ 0 < many ∧ many < 2 ^ 60 ∧ ∀ r G', 0 ≤ r → r < many → Offs [a] G G' → BoxAt G' a n → K (.int r) G'
theorem ok_take {f : Addr} {fd : FuncData} (F : Fun K "_law_take" "_law_take" sTake f fd) (B : Bl mg) : FnOk P w K mg base CX0 1 f fd ["box", "many"] (low ⟨P, w, K⟩ spTake) := by
  refine fnA_of F sc_take (fun ws G Kc KE ⟨a, n, many, e, _⟩ => by rw [e]; rfl) fun cdv A outer s H E ws G Kc KE hr ⟨a, n, many, e, ⟨bx, hB, x, y, z, eb, hx, hy, hy2, hz, hz2⟩, hm, hm2, k⟩ => ?_
  subst e eb
  refine s_cons (s_if (b_gt (q_ix (qv 0 rfl (q_int ⟨_, .int x, hB, rfl, ?_⟩)))))
  refine q_int ?_
  refine ifB_dec (fun h => ?_) (fun h => ?_)
  · refine s_cons (s_asg (q_divmod B.divmod (a_cons (q_ix (qv 0 rfl (q_int ⟨_, .int x, hB, rfl, ?_⟩))))))
    refine a_cons (qv 1 rfl (a_nil ⟨divp_small hm (by omega), ?_⟩))
    refine g_tup rfl (gs_cons (g_ix (qv 0 rfl (q_int ⟨_, 0, hB, rfl, ?_⟩))))
    refine gs_cons (g_name (i := 2) sc_take.nd (gs_nil ?_))
    refine s_cons (s_ret (qv 2 rfl ⟨_, Sub.refl, ?_⟩))
    refine k _ _ (Int.emod_nonneg _ (by omega)) (Int.emod_lt_of_pos _ hm) (Offs.refl.put (by simp)) ⟨_, aup_same, ?_⟩
    exact ⟨x / many, y, z, rfl, Int.ediv_nonneg hx (by omega), hy, hy2, hz, by omega⟩
  · refine s_nil (s_cons (s_asg (q_add (q_ix (qv 0 rfl (q_int ⟨_, .int z, hB, rfl, ?_⟩))))))
    refine q_int (g_ix (qv 0 rfl (q_int ⟨_, 2, hB, rfl, ?_⟩)))
    have hB2 : (aup G a (.lst (([.int x, .int y, .int z] : List W).set 2 (.int (z + 1))))) a = some (.lst [.int x, .int y, .int (z + 1)]) := aup_same
    generalize hG2 : aup G a (.lst (([.int x, .int y, .int z] : List W).set 2 (.int (z + 1)))) = G2 at hB2 ⊢
    have off : Offs [a] G G2 := by rw [← hG2]; exact Offs.refl.put (by simp)
    refine s_cons (s_set (i := 3) sc_take.nd (q_mod (q_pow (q_add (q_ix (qv 0 rfl (q_int ⟨_, .int y, hB2, rfl, ?_⟩)))))))
    refine q_mul (q_int (q_ix (qv 0 rfl (q_int ⟨_, .int (z + 1), hB2, rfl, ?_⟩))))
    refine ⟨mulok (by decide) (by decide), ?_⟩
    refine q_int ⟨⟨by decide, by decide, by omega⟩, ?_⟩
    refine q_int ⟨by show (0 : Int) < 2147483647; decide, ?_⟩
    refine SQ.st [some (.ref a), some (.int many), none, some (.int ((y + 39373 * (z + 1)) ^ (5 : Int).toNat % 2147483647))] rfl ?_
    have o1 : 0 ≤ (y + 39373 * (z + 1)) ^ (5 : Int).toNat % 2147483647 := Int.emod_nonneg _ (by decide)
    have o2 : (y + 39373 * (z + 1)) ^ (5 : Int).toNat % 2147483647 < 2147483647 := Int.emod_lt_of_pos _ (by decide)
    generalize (y + 39373 * (z + 1)) ^ (5 : Int).toNat % 2147483647 = o at o1 o2 ⊢
    refine s_cons (s_ret (q_mod (q_fdiv (q_mod (q_add (q_mul (qv 3 rfl (q_int ⟨mulok (by omega) (by omega), ?_⟩))))))))
    refine q_mul (q_mul (q_ix (qv 0 rfl (q_int ⟨_, .int (z + 1), hB2, rfl, ?_⟩))))
    refine q_ix (qv 0 rfl (q_int ⟨_, .int (z + 1), hB2, rfl, ?_⟩))
    refine ⟨mulok (by omega) (by omega), ?_⟩
    refine q_int ⟨mulokR (by decide) (by decide), ?_⟩
    refine q_int ⟨by show (0 : Int) < 2147483629; decide, ?_⟩
    refine q_int ⟨⟨by decide, by decide⟩, ?_⟩
    refine qv 1 rfl ⟨hm, ?_⟩
    exact ⟨_, Sub.refl, k _ _ (Int.emod_nonneg _ (by omega)) (Int.emod_lt_of_pos _ hm) off ⟨_, hB2, x, y, z + 1, rfl, hx, hy, hy2, by omega, by omega⟩⟩
end
end SW
namespace SW
open PySem PySem.Spec L2 AL
theorem cutW_to {xs : List W} (k : Nat) : cutW xs none (some (k : Int)) = xs.take k := by
  unfold cutW
  rw [HT.sIx_none, HT.sIx_nat, List.drop_zero, Nat.sub_zero, ← List.take_take, List.take_length]
theorem cutW_from {xs : List W} (k : Nat) : cutW xs (some (k : Int)) none = xs.drop k := by
  unfold cutW
  rw [HT.sIx_none, HT.sIx_nat, List.take_of_length_le (by rw [List.length_drop]; exact Nat.le_refl _)]
  by_cases h : k ≤ xs.length
  · rw [Nat.min_eq_left h]
  · rw [Nat.min_eq_right (by omega), List.drop_length, List.drop_eq_nil_of_le (by omega)]
theorem cutW_len {xs : List W} (j k : Nat) : (cutW xs (some (j : Int)) (some (k : Int))).length = min k xs.length - min j xs.length := by
  unfold cutW
  rw [HT.sIx_nat, HT.sIx_nat, List.length_take, List.length_drop]
  omega
section
variable {P : Program} {w : World} {K : PySem.W.Frag} {mg : Str → Option Value} {base : Heap}
abbrev sFold : Stmt := top 15
theorem sc_fold : FnScope ["script", "many", "cells", "k", "cell"] ["script", "many"] (defScope sFold) := ⟨rfl, rfl, rfl, by decide +kernel, rfl, by decide +kernel, by decide +kernel⟩
def spFold (c : Ct) : ASp := fun ws G K _ => ∃ (a : Addr) (ns : List Int) (many : Nat), ws = [.ref a, .int many] ∧ Scr c G a ns ∧ 0 < many ∧ many ≤ 1000 ∧ ns.length ≤ 63 ∧ ∀ (p : Addr) (ms : List Int), G p = none → ms.length = max 2 (min many ns.length) → K (.ref p) (aup G p (.lst (ms.map W.int)))
theorem ok_fold {f : Addr} {fd : FuncData} (F : Fun K "_law_folded" "_law_folded" sFold f fd) (B : Bl mg) : FnOk P w K mg base CX0 1 f fd ["script", "many"] (low ⟨P, w, K⟩ (spFold ⟨P, w, K⟩)) := by
  refine fnA_of F sc_fold (fun ws G Kc KE ⟨a, ns, many, e, _⟩ => by rw [e]; rfl) fun cdv A outer s H E ws G Kc KE hr ⟨a, ns, many, e, hA, hm, hm2, hn, k⟩ => ?_
  subst e
  refine s_cons (s_set (i := 2) sc_fold.nd (q_list B.list (a_cons (q_slS (qv 0 rfl (o_non (o_some (qv 1 rfl ⟨ns, hA, fun p1 h1 => ?_⟩))))))))
  rw [cutW_to, ← List.map_take]
  refine a_nil ⟨_, aup_same, fun c hc => ?_⟩
  refine s_cons (s_for PassesOwn.never rfl (i_enum rfl B.enumerate (q_slS (qv 0 rfl (o_some (qv 1 rfl (o_some (q_int ⟨ns, (hA.sub (Sub.new h1)).sub (Sub.new hc), fun l hl => ?_⟩))))))))
  obtain ⟨hc0, hcp⟩ := aup_free hc
  obtain ⟨hl1, hlc⟩ := aup_free hl
  obtain ⟨hl0, hlp⟩ := aup_free hl1
  have hl63 := cutW_len (xs := ns.map W.int) many 63
  rw [List.length_map] at hl63
  have items : ∀ i x, (cutW (ns.map W.int) (some (many : Int)) (some (63 : Int)))[i]? = some x → ∃ z : Int, x = W.int z := fun i (x : W) hx => by
    rw [cutW_map, List.getElem?_map] at hx
    obtain ⟨z, _, e⟩ := Option.map_eq_some_iff.mp hx
    exact ⟨z, e.symm⟩
  refine ⟨l, _, rfl, aup_same, ?_⟩
  have l63 : (cutW (ns.map W.int) (some (many : Int)) (some (63 : Int))).length = min 63 ns.length - min many ns.length := hl63
  generalize hcells : cutW (ns.map W.int) (some (many : Int)) (some (63 : Int)) = xs at items l63 ⊢
  generalize hG0 : aup (aup G p1 (.lst ((ns.take many).map W.int))) c (.lst ((ns.take many).map W.int)) = G0 at hl ⊢
  have hcG : G0 c = some (.lst ((ns.take many).map W.int)) := by rw [← hG0]; exact aup_same
  have offG : Offs [c, p1] G G0 := by rw [← hG0]; exact Offs.new (Offs.new Offs.refl)
  refine ⟨fun i ρ' G' => ∃ ms v v', ρ' = [some (.ref a), some (.int many), some (.ref c), v, v'] ∧ G' c = some (.lst (ms.map W.int)) ∧ ms.length = min many ns.length ∧ G' l = some (.lst xs) ∧ Offs [l, c, p1] G G', ⟨ns.take many, none, none, rfl, by rw [aup_ne (Ne.symm hlc)]; exact hcG, by rw [List.length_take], aup_same, Offs.new offG⟩, fun i ρ' G' _ ⟨_, _, _, _, _, _, h, _⟩ => h, fun i x ρ' G' hx ⟨ms, v, v', e1, hms, hml, hll, off⟩ => ?_, fun ρ' G' ⟨ms, v, v', e1, hms, hml, hll, off⟩ => ?_⟩
  · have hi : i < xs.length := by have := (List.getElem?_eq_some_iff.mp hx).1; rwa [enW_length] at this
    obtain ⟨z, hz⟩ := items i xs[i] (by simp [hi])
    rw [enW_get (show xs[i]? = some xs[i] by simp [hi])] at hx
    cases hx
    rw [hz]
    subst e1
    have hlen : ms.length = many := by omega
    have him : i % many < many := Nat.mod_lt _ hm
    refine g_tup rfl (gs_cons (g_name (i := 3) sc_fold.nd (gs_cons (g_name (i := 4) sc_fold.nd (gs_nil ?_)))))
    have at1 : atI (ms.map W.int) ((i : Int) % (many : Int)) = some (.int (ms.getD (i % many) 0)) := by
      have : ((i : Int) % (many : Int)) = ((i % many : Nat) : Int) := by omega
      rw [this]
      exact atI_of (by simp [List.getD, show i % many < ms.length by omega])
    have ix1 : ixN (ms.map W.int).length ((i : Int) % (many : Int)) = some (i % many) := by
      have : ((i : Int) % (many : Int)) = ((i % many : Nat) : Int) := by omega
      rw [this]
      exact ixN_nat (by rw [List.length_map]; omega)
    have mpos : (0 : Int) < (many : Int) := by omega
    refine s_cons (s_asg (q_add (q_ix (qv 2 rfl (q_mod (qv 3 rfl (qv 1 rfl ⟨mpos, _, _, hms, at1, ?_⟩)))))))
    refine q_mul (qv 4 rfl (q_add (qv 3 rfl (q_int ?_))))
    refine ⟨mulokR (by show -(2 ^ 64) < (i : Int) + 2; omega) (by show (i : Int) + 2 < 2 ^ 64; omega), ?_⟩
    refine g_ix (qv 2 rfl (q_mod (qv 3 rfl (qv 1 rfl ⟨mpos, _, _, hms, ix1, ?_⟩))))
    refine s_nil ⟨ms.set (i % many) (ms.getD (i % many) 0 + z * ((i : Int) + 2)), some (.int i), some (.int z), rfl, ?_, ?_, ?_, off.put (by simp)⟩
    · rw [aup_same, List.map_set]
    · rw [List.length_set]; exact hml
    · rw [aup_ne hlc]; exact hll
  · subst e1
    refine s_cons (s_ret (q_add (qv 2 rfl (q_sl (q_lst (a_cons (q_int (a_cons (q_int (a_nil fun t ht => ?_))))))))))
    have htc : t ≠ c := (ane_none hms ht).symm
    refine o_some (q_len B.len (a_cons (qv 2 rfl (a_nil ⟨_, by rw [aup_ne htc.symm]; exact hms, ?_⟩))))
    refine o_non ⟨_, aup_same, fun q hq => ?_⟩
    obtain ⟨hq1, hqt⟩ := aup_free hq
    have hqc : q ≠ c := (ane_none hms hq1).symm
    rw [cutW_from]
    refine ⟨_, _, by rw [aup_ne hqc.symm, aup_ne htc.symm]; exact hms, aup_same, ?_, fun p hp => ?_⟩
    · rw [List.length_map, List.length_drop]
      refine Nat.le_trans (m := 1002) ?_ (by decide)
      simp only [List.length_cons, List.length_nil]
      omega
    · have e2 : (ms.map W.int ++ (([.int 5, .int 8] : List W).drop (ms.map W.int).length)) = (ms ++ ([5, 8] : List Int).drop ms.length).map W.int := by
        rw [List.map_append, List.map_drop, List.length_map]; rfl
      rw [e2]
      obtain ⟨hp1, hpq⟩ := aup_free hp
      obtain ⟨hp2, hpt⟩ := aup_free hp1
      have hp0 : ∀ q, G' q = none → G q = none := fun q h => by
        cases hh : G q with
        | none => rfl
        | some o =>
          exfalso
          have hn : q ∉ [l, c, p1] := by
            simp only [List.mem_cons, List.not_mem_nil, or_false, not_or]
            exact ⟨ane_none hh hl0, ane_none hh hc0, ane_none hh h1⟩
          rw [off q hn, hh] at h
          cases h
      refine ⟨_, ?_, k p (ms ++ ([5, 8] : List Int).drop ms.length) (hp0 p hp2) ?_⟩
      · refine Offs.sub1 (l := [p, q, t, l, c, p1]) (Offs.new (Offs.new (Offs.new off))) aup_same fun x hx hxp => ?_
        simp only [List.mem_cons, List.not_mem_nil, or_false] at hx
        rcases hx with h | h | h | h | h | h
        · exact absurd h hxp
        · rw [h]; exact hp0 q (aup_free hq).1
        · rw [h]; exact hp0 t ht
        · rw [h]; exact hl0
        · rw [h]; exact hc0
        · rw [h]; exact h1
      · rw [List.length_append, List.length_drop]
        simp only [List.length_cons, List.length_nil]
        omega
end
end SW
namespace SW
open PySem PySem.Spec L2 AL
theorem rgc_pos {i j : Int} (ha : -(2 ^ 62) ≤ i) (ha' : i < 2 ^ 62) (hb : -(2 ^ 62) ≤ j) (hb' : j < 2 ^ 62) : RgC i j 1 (j - i).toNat := ⟨by decide, by decide, small_one ha ha' hb hb', PyProof.Rows.rangeSize_nat i j⟩
/-! ### a way along the edges -/
def wd (a b : Nat) : Int := if a < b then 1 else -1
def wn (a b : Nat) : Nat := if a < b then b - a else a - b
def wst (a b i : Nat) : Sp := .edge (a + i * wd a b) (a + i * wd a b + wd a b) (if wd a b > 0 then a + i * wd a b else a + i * wd a b - 1)
def wayS (a b : Nat) : List Sp := (List.range (wn a b)).map (wst a b)
def zEd : Ed := ⟨0, 0, 0, .non⟩
def spLen (es : List Ed) : Sp → Int
  | .edge _ _ p => (es.getD p.toNat zEd).w
  | .like _ _ => 0
def wayL (es : List Ed) (a b : Nat) : Int := ((wayS a b).map (spLen es)).sum
theorem wayS_len (a b : Nat) : (wayS a b).length = wn a b := by simp [wayS]
theorem wayS_at {a b i : Nat} (h : i < wn a b) : (wayS a b)[i]? = some (wst a b i) := by simp [wayS, h]
theorem eW_at {es : List Ed} {i : Nat} (h : i < es.length) : atI (eW es) (i : Int) = some (es.getD i zEd).W := atI_of (by simp [eW, h, List.getD])
section
variable {P : Program} {w : World} {K : PySem.W.Frag} {mg : Str → Option Value} {base : Heap}
abbrev sWay : Stmt := top 17
theorem sc_way : FnScope ["edges", "a", "b", "steps", "length", "step", "k", "place"] ["edges", "a", "b"] (defScope sWay) := ⟨rfl, rfl, rfl, by decide +kernel, rfl, by decide +kernel, by decide +kernel⟩
def spWay : ASp := fun ws G K _ => ∃ (c : Addr) (es : List Ed) (a b : Nat), ws = [.ref c, .int a, .int b] ∧ G c = some (.lst (eW es)) ∧ a ≤ es.length ∧ b ≤ es.length ∧ es.length ≤ 10000 ∧ ∀ p : Addr, G p = none → K (.tup [.ref p, .int (wayL es a b)]) (aup G p (.lst ((wayS a b).map Sp.W)))
theorem ok_way {f : Addr} {fd : FuncData} (F : Fun K "_law_way" "_law_way" sWay f fd) (B : Bl mg) : FnOk P w K mg base CX0 1 f fd ["edges", "a", "b"] (low ⟨P, w, K⟩ spWay) := by
  refine fnA_of F sc_way (fun ws G Kc KE ⟨c, es, a, b, e, _⟩ => by rw [e]; rfl) fun cdv A outer s H E ws G Kc KE hr ⟨c, es, a, b, e, hC, ha, hb, hn, k⟩ => ?_
  subst e
  refine s_cons (s_cut (P := fun ρ' G' => ∃ p, ρ' = [some (.ref c), some (.int a), some (.int b), some (.ref p), some (.int 0), some (.int (wd a b)), none, none] ∧ G p = none ∧ G' = aup G p (.lst [])) ?_ ?_)
  · refine s_par3 (i := 3) (j := 4) (l := 5) sc_way.nd (q_lst (a_nil fun p hp => ?_))
    refine q_int (q_if (b_gt (qv 2 rfl (qv 1 rfl ?_))))
    refine ifB_dec (fun h => ?_) (fun h => ?_)
    · exact q_int ⟨p, by unfold wd; rw [if_pos (by omega)]; rfl, hp, rfl⟩
    · exact q_neg (q_int ⟨p, by unfold wd; rw [if_neg (by omega)]; rfl, hp, rfl⟩)
  rintro _ _ ⟨p, rfl, hp, rfl⟩
  have hcp : c ≠ p := ane_none hC hp
  have rg : RgC (a : Int) (b : Int) (wd a b) (wn a b) := by
    unfold wd wn
    by_cases h : a < b
    · rw [if_pos h, if_pos h]
      have := rgc_pos (i := a) (j := b) (by omega) (by omega) (by omega) (by omega)
      rwa [show ((b : Int) - (a : Int)).toNat = b - a by omega] at this
    · rw [if_neg h, if_neg h]
      have := RgC.neg (i := a) (j := b) (by omega) (by omega) (by omega) (by omega)
      rwa [show ((a : Int) - (b : Int)).toNat = a - b by omega] at this
  refine s_cons (s_for PassesOwn.never rfl (i_range3 rfl B.range (qv 1 rfl (qv 2 rfl (qv 5 rfl ⟨_, rg, ?_⟩)))))
  refine ⟨fun i ρ' G' => ∃ v v', ρ' = [some (.ref c), some (.int a), some (.int b), some (.ref p), some (.int (((wayS a b).take i).map (spLen es)).sum), some (.int (wd a b)), v, v'] ∧ G' = aup G p (.lst (((wayS a b).take i).map Sp.W)), ⟨none, none, rfl, rfl⟩, fun _ _ _ _ _ => trivial, fun i x ρ' G' hx ⟨v, v', e1, e2⟩ => ?_, fun ρ' G' ⟨v, v', e1, e2⟩ => ?_⟩
  · obtain ⟨hi, rfl⟩ := rng_item hx
    subst e1 e2
    have hat := wayS_at hi
    have tk : (wayS a b).take (i + 1) = (wayS a b).take i ++ [wst a b i] := by rw [List.take_succ, hat]; rfl
    obtain ⟨pl, hpl, hplt⟩ : ∃ pl : Nat, (if wd a b > 0 then (a : Int) + i * wd a b else a + i * wd a b - 1) = pl ∧ pl < es.length := by
      unfold wn at hi
      unfold wd
      by_cases h : a < b
      · rw [if_pos h] at hi ⊢
        exact ⟨a + i, by rw [if_pos (by decide)]; omega, by omega⟩
      · rw [if_neg h] at hi ⊢
        exact ⟨a - i - 1, by rw [if_neg (by decide)]; omega, by omega⟩
    refine g_name (i := 6) sc_way.nd ?_
    refine s_cons (s_cut (P := fun ρ' G' => ρ' = [some (.ref c), some (.int a), some (.int b), some (.ref p), some (.int (((wayS a b).take i).map (spLen es)).sum), some (.int (wd a b)), some (.int (a + i * wd a b)), some (.int pl)] ∧ G' = aup G p (.lst (((wayS a b).take i).map Sp.W))) ?_ ?_)
    · refine s_set (i := 7) sc_way.nd (q_if (b_gt (qv 5 rfl (q_int ?_))))
      rw [← hpl]
      refine ifB_dec (fun h => ?_) (fun h => ?_)
      · exact qv 6 rfl ⟨by rw [if_pos h]; rfl, rfl⟩
      · exact q_sub (qv 6 rfl (q_int ⟨by rw [if_neg (by omega)]; rfl, rfl⟩))
    rintro _ _ ⟨rfl, rfl⟩
    have hl : ((((wayS a b).take i).map Sp.W)).length < sizeLine := by
      rw [List.length_map, List.length_take]
      refine Nat.lt_of_le_of_lt (m := 10000) ?_ (by decide)
      unfold wn at hi
      split at hi <;> omega
    refine s_cons (s_expr (q_append (qv 3 rfl ⟨_, _, rfl, aup_same, ?_⟩)))
    refine a_cons (q_tup (a_cons (q_str (a_cons (qv 6 rfl (a_cons (q_add (qv 6 rfl (qv 5 rfl ?_)))))))))
    refine a_cons (qv 7 rfl (a_nil (a_nil ⟨_, aup_same, hl, ?_⟩)))
    refine s_cons (s_set (i := 4) sc_way.nd (q_add (qv 4 rfl (q_ix (q_ix (qv 0 rfl (qv 7 rfl ?_)))))))
    refine ⟨_, _, by rw [aup_ne hcp, aup_ne hcp]; exact hC, eW_at hplt, ?_⟩
    refine q_int ?_
    refine s_nil ⟨some (.int (a + i * wd a b)), some (.int pl), ?_, ?_⟩
    · rw [tk, List.map_append, List.sum_append]
      have : (List.map (spLen es) [wst a b i]).sum = (es.getD pl zEd).w := by
        show (es.getD (if wd a b > 0 then (a : Int) + i * wd a b else a + i * wd a b - 1).toNat zEd).w + 0 = _
        rw [hpl, Int.add_zero]; rfl
      rw [this]
      rfl
    · rw [aup_aup, tk, List.map_append]
      show _ = aup G p (.lst (_ ++ [(wst a b i).W]))
      unfold wst
      rw [hpl]; rfl
  · rw [rngW_length, ← wayS_len, List.take_length] at e1 e2
    subst e1 e2
    exact s_cons (s_ret (q_tup (a_cons (qv 3 rfl (a_cons (qv 4 rfl (a_nil ⟨_, Sub.refl, k p hp⟩)))))))
end
end SW
namespace SW
open PySem PySem.Spec L2 AL
/-- all that was known is known still, but at some places -/
def Upto (l : List Addr) (G G' : AH) : Prop := ∀ q o, q ∉ l → G q = some o → G' q = some o
theorem Upto.refl {l : List Addr} {G : AH} : Upto l G G := fun _ _ _ h => h
theorem Upto.trans {l : List Addr} {G G1 G2 : AH} (h : Upto l G G1) (h' : Upto l G1 G2) : Upto l G G2 := fun q o n e => h' q o n (h q o n e)
theorem Upto.off {l : List Addr} {G G' : AH} (h : Offs l G G') : Upto l G G' := fun q o n e => by rw [h q n]; exact e
theorem Upto.new {l : List Addr} {G G' : AH} {p : Addr} {o : AO} (h : Upto l G G') (n : G' p = none) : Upto l G (aup G' p o) := fun q u m e => aup_new n (h q u m e)
theorem Upto.put {l : List Addr} {G G' : AH} {p : Addr} {o : AO} (h : Upto l G G') (n : p ∈ l) : Upto l G (aup G' p o) := fun q u m e => by
  rw [aup_ne (fun z => m (by rw [z]; exact n))]; exact h q u m e
theorem Upto.putN {l : List Addr} {G G' : AH} {p : Addr} {o : AO} (h : Upto l G G') (n : G p = none) : Upto l G (aup G' p o) := fun q u m e => by
  rw [aup_ne (ane_none e n)]; exact h q u m e
theorem Upto.at1 {a q : Addr} {G G' : AH} {o : AO} (h : Upto [a] G G') (e : G q = some o) (n : q ≠ a) : G' q = some o := h q o (by simpa using n) e
theorem Upto.free {l : List Addr} {G G' : AH} {p : Addr} (h : Upto l G G') (e : G' p = none) (n : p ∉ l) : G p = none := by
  cases q : G p with
  | none => rfl
  | some o => rw [h p o n q] at e; cases e
theorem Upto.nil {G G' : AH} (h : Upto [] G G') : Sub G G' := fun q o e => h q o (by simp) e
theorem Upto.more {l l' : List Addr} {G G' : AH} (h : Upto l G G') (s : ∀ q ∈ l, q ∈ l') : Upto l' G G' := fun q o n e => h q o (fun z => n (s q z)) e
def words4 : List Str := ["x", "yy", "a", "zz"]
structure CaseOk (many : Nat) (ts : List Tm) (es : List Ed) (one other : List Nat) : Prop where
  m2 : 2 ≤ many
  m4 : many ≤ 4
  hts : ts = (words4.take many).map Tm.name ++ [Tm.of "f" one, Tm.of "f" other]
  hes : es.length = many - 1
  ends : ∀ k e, es[k]? = some e → ((e.a = k ∧ e.b = k + 1) ∨ (e.a = k + 1 ∧ e.b = k)) ∧ 1 ≤ e.w
  l2 : 2 ≤ one.length
  l4 : one.length ≤ 4
  leq : other.length = one.length
  lt1 : ∀ x ∈ one, x < many
  lt2 : ∀ x ∈ other, x < many
  ne : one ≠ other
theorem nW_ints (ks : List Nat) : nW ks = (ks.map fun (k : Nat) => (k : Int)).map W.int := by simp [nW]
theorem natInts_inj : ∀ {ks js : List Nat}, (ks.map fun (k : Nat) => (k : Int)) = (js.map fun (k : Nat) => (k : Int)) ↔ ks = js := fun {ks js} => by
  rw [List.map_inj_right (fun a b h => Int.ofNat_inj.mp h)]
theorem fEq_nats {G : AH} {K : W → AH → Prop} {a b : Addr} {ks js : List Nat} {neg : Bool} (ha : G a = some (.lst (nW ks))) (hb : G b = some (.lst (nW js))) (k : K (.bl (if neg then !decide (ks = js) else decide (ks = js))) G) : fEqB neg (.ref a) (.ref b) G K := by
  rw [nW_ints] at ha hb
  refine fEq_ints ha hb ?_
  rw [show decide ((ks.map fun (k : Nat) => (k : Int)) = (js.map fun (k : Nat) => (k : Int))) = decide (ks = js) from decide_eq_decide.mpr natInts_inj]
  exact k
theorem bump_ne {xs : List Nat} {many : Nat} (m : 2 ≤ many) (h : 0 < xs.length) (lt : ∀ x ∈ xs, x < many) : xs ≠ xs.set 0 ((xs.getD 0 0 + 1) % many) := fun e => by
  have := congrArg (fun l => l.getD 0 0) e
  simp only [List.getD] at this
  rw [List.getElem?_set_self h] at this
  have hx : xs[0]? = some xs[0] := by simp [h]
  have l := lt xs[0] (List.getElem_mem h)
  rw [hx] at this
  simp only [Option.getD_some] at this
  by_cases q : xs[0] + 1 < many
  · rw [Nat.mod_eq_of_lt q] at this; omega
  · have e1 : xs[0] + 1 = many := by omega
    have e2 : (xs[0] + 1) % many = 0 := by rw [e1, Nat.mod_self]
    omega
theorem mem_set_lt {xs : List Nat} {i v many : Nat} (h : ∀ x ∈ xs, x < many) (hv : v < many) : ∀ x ∈ xs.set i v, x < many := fun x hx => by
  rcases List.mem_or_eq_of_mem_set hx with h' | h'
  · exact h x h'
  · omega
theorem getD_lt {xs : List Nat} {i many : Nat} (h : ∀ x ∈ xs, x < many) (hi : i < xs.length) : xs.getD i 0 < many := by
  have : xs.getD i 0 = xs[i] := by simp [List.getD, hi]
  rw [this]; exact h _ (List.getElem_mem hi)
theorem ixN_last {n : Nat} (h : 0 < n) : ixN n (-1) = some (n - 1) := by
  unfold ixN
  rw [if_neg (by omega), if_pos (by omega)]
  congr 1
  omega
section
variable {P : Program} {w : World} {K : PySem.W.Frag} {mg : Str → Option Value} {base : Heap}
abbrev sCase : Stmt := top 16
theorem sc_case : FnScope ["box", "many", "terms", "edges", "k", "ends", "arms", "one", "other", "word", "part"] ["box"] (defScope sCase) := ⟨rfl, rfl, rfl, by decide +kernel, rfl, by decide +kernel, by decide +kernel⟩
def spCase : ASp := fun ws G K _ => ∃ (a : Addr) (n : Nat), ws = [.ref a] ∧ BoxAt G a (n + 40) ∧ ∀ (t e o r : Addr) (many : Nat) (ts : List Tm) (es : List Ed) (one other : List Nat) (G' : AH), Upto [a] G G' → BoxAt G' a n → t ≠ a → e ≠ a → o ≠ a → r ≠ a →
  G' t = some (.lst (tW ts)) → G' e = some (.lst (eW es)) → G' o = some (.lst (nW one)) → G' r = some (.lst (nW other)) → CaseOk many ts es one other → K (.tup [.ref t, .ref e, .ref o, .ref r]) G'
theorem ok_case {f : Addr} {fd : FuncData} (F : Fun K "_law_case" "_law_case" sCase f fd) (B : Bl mg) (CT : Cal P w K mg base "_law_take" 1 ["box", "many"] spTake) : FnOk P w K mg base CX0 2 f fd ["box"] (low ⟨P, w, K⟩ spCase) := by
  refine fnA_of F sc_case (fun ws G Kc KE ⟨a, n, e, _⟩ => by rw [e]; rfl) fun cdv A outer s H E ws G Kc KE hr ⟨a, n, e, hB, k⟩ => ?_
  subst e
  -- many
  refine s_cons (s_set (i := 1) sc_case.nd (q_add (q_int (q_cal CT hr (a_cons (qv 0 rfl (a_cons (q_int (a_nil ⟨a, n + 39, 3, rfl, hB, by decide, by decide, fun r G1 r0 r1 off hB1 => ?_⟩)))))))))
  obtain ⟨many, hmany, m2, m4⟩ : ∃ many : Nat, 2 + r = many ∧ 2 ≤ many ∧ many ≤ 4 := ⟨(2 + r).toNat, by omega, by omega, by omega⟩
  refine SQ.st [some (.ref a), some (.int many), none, none, none, none, none, none, none, none, none] (by rw [← hmany]; rfl) ?_
  have up1 : Upto [a] G G1 := .off off
  clear off hmany r0 r1
  -- terms
  refine s_cons (s_setLc (i := 2) sc_case.nd (blkOk_by (N := ["box", "many", "terms", "edges", "k", "ends", "arms", "one", "other", "word", "part"]) (sc := defScope sCase) (own := [("word", 9)]) (by decide +kernel)) (i_list (q_sl (q_lst (a_cons (q_str (a_cons (q_str (a_cons (q_str (a_cons (q_str (a_nil fun p1 h1 => ?_)))))))))))))
  refine o_non (o_some (qv 1 rfl ⟨_, aup_same, fun p2 h2 => ?_⟩))
  refine ⟨p2, _, rfl, aup_same, ?_⟩
  rw [cutW_to]
  have hw4 : ([.str "x", .str "yy", .str "a", .str "zz"] : List W).take many = (words4.take many).map W.str := by
    rw [List.map_take]; rfl
  rw [hw4]
  have up2 : Upto [a] G (aup (aup G1 p1 (.lst [.str "x", .str "yy", .str "a", .str "zz"])) p2 (.lst ((words4.take many).map W.str))) := (up1.new h1).new h2
  have hB2 := (hB1.new h1).new (o := .lst ((words4.take many).map W.str)) h2
  have hp2 : (aup (aup G1 p1 (.lst [.str "x", .str "yy", .str "a", .str "zz"])) p2 (.lst ((words4.take many).map W.str))) p2 = some (.lst ((words4.take many).map W.str)) := aup_same
  generalize aup (aup G1 p1 (.lst [.str "x", .str "yy", .str "a", .str "zz"])) p2 (.lst ((words4.take many).map W.str)) = G2 at up2 hB2 hp2 ⊢
  refine lk_mapZ (zs := words4.take many) W.str (fun x => W.tup [.str "name", .str x]) sc_case.nd (by rw [List.length_take]; omega) (fun D ws hD => aup_new hD hp2) (fun z hz D ws hD s0 H0 C cl fp => ?_) (fun T0 hT0 => ?_)
  · exact q_tup (a_cons (q_str (a_cons (qv 9 rfl (a_nil ⟨rfl, rfl⟩)))))
  have et : (words4.take many).map (fun x => W.tup [.str "name", .str x]) = tW ((words4.take many).map Tm.name) := by
    unfold tW; rw [List.map_map]; rfl
  rw [et]
  -- edges
  refine s_cons (s_set (i := 3) sc_case.nd (q_lst (a_nil fun E0 hE0 => ?_)))
  obtain ⟨hE2, hET⟩ := aup_free hE0
  have hTa : T0 ≠ a := by obtain ⟨_, h, _⟩ := hB2; exact (ane_none h hT0).symm
  have hEa : E0 ≠ a := by obtain ⟨_, h, _⟩ := hB2; exact (ane_none h hE2).symm
  have hT00 : G T0 = none := up2.free hT0 (by simpa using hTa)
  have hE00 : G E0 = none := up2.free hE2 (by simpa using hEa)
  have up3 := (up2.new (o := .lst (tW ((words4.take many).map Tm.name))) hT0).new (o := .lst []) hE0
  have hB3 := (hB2.new (o := .lst (tW ((words4.take many).map Tm.name))) hT0).new (o := .lst []) hE0
  have hT3 : (aup (aup G2 T0 (.lst (tW ((words4.take many).map Tm.name)))) E0 (.lst [])) T0 = some (.lst (tW ((words4.take many).map Tm.name))) := aup_new hE0 aup_same
  have hE3 : (aup (aup G2 T0 (.lst (tW ((words4.take many).map Tm.name)))) E0 (.lst [])) E0 = some (.lst []) := aup_same
  generalize aup (aup G2 T0 (.lst (tW ((words4.take many).map Tm.name)))) E0 (.lst []) = G3 at up3 hB3 hT3 hE3 ⊢
  refine SQ.st [some (.ref a), some (.int many), some (.ref T0), some (.ref E0), none, none, none, none, none, none, none] rfl ?_
  clear hp2 up2 hB2 hT0 hE0 hE2 up1 hB1 h1 h2
  refine s_cons (s_for PassesOwn.never rfl (i_range2 rfl B.range (q_int (qv 1 rfl ⟨by omega, ?_⟩))))
  refine ⟨fun i ρ' G' => ∃ es v v', ρ' = [some (.ref a), some (.int many), some (.ref T0), some (.ref E0), v, v', none, none, none, none, none] ∧ es.length = i ∧ (∀ (k : Nat) (e : Ed), es[k]? = some e → ((e.a = k ∧ e.b = k + 1) ∨ (e.a = k + 1 ∧ e.b = k)) ∧ 1 ≤ e.w) ∧ G' E0 = some (.lst (eW es)) ∧ G' T0 = some (.lst (tW ((words4.take many).map Tm.name))) ∧ BoxAt G' a (n + 39 - 3 * i) ∧ Upto [a] G G', ⟨[], none, none, rfl, rfl, fun k e h => by simp at h, hE3, hT3, hB3, up3⟩, fun _ _ _ _ _ => trivial, fun i x ρ' G' hx ⟨es, v, v', e1, hl, hes, hE, hT, hBx, up⟩ => ?_, fun ρ' G' ⟨es, v, v', e1, hl, hes, hE, hT, hBx, up⟩ => ?_⟩
  · obtain ⟨hi, rfl⟩ := rng_item hx
    have hi3 : i < 3 := by omega
    subst e1
    refine g_name (i := 4) sc_case.nd ?_
    refine SQ.st [some (.ref a), some (.int many), some (.ref T0), some (.ref E0), some (.int ((i + 1 : Nat) : Int)), v', none, none, none, none, none] (by rw [← show (1 + (i : Int) * 1) = ((i + 1 : Nat) : Int) by omega]; rfl) ?_
    have em : (fun i j : Int => i - j) ((i + 1 : Nat) : Int) 1 = (i : Int) := by show ((i + 1 : Nat) : Int) - 1 = i; omega
    refine s_cons (s_cut (P := fun ρ2 G2 => ∃ x y : Nat, ((x = i ∧ y = i + 1) ∨ (x = i + 1 ∧ y = i)) ∧ ρ2 = [some (.ref a), some (.int many), some (.ref T0), some (.ref E0), some (.int ((i + 1 : Nat) : Int)), some (.tup [.int x, .int y]), none, none, none, none, none] ∧ G2 E0 = some (.lst (eW es)) ∧ G2 T0 = some (.lst (tW ((words4.take many).map Tm.name))) ∧ BoxAt G2 a (n + 38 - 3 * i) ∧ Upto [a] G G2) ?_ ?_)
    · refine s_set (i := 5) sc_case.nd (q_if (b_eq (u64 hr) (q_cal CT hr (a_cons (qv 0 rfl (a_cons (q_int (a_nil ⟨a, n + 38 - 3 * i, 2, rfl, hBx.less (by omega), by decide, by decide, fun r G1 r0 r1 off hB1 => ?_⟩))))))))
      have up1 := up.trans (.off off)
      have u1 : Upto [a] G' G1 := .off off
      refine q_int ?_
      refine ifB_dec (fun h => ?_) (fun h => ?_)
      · refine q_tup (a_cons (q_sub (qv 4 rfl (q_int ?_))))
        refine a_cons (qv 4 rfl (a_nil ⟨i, i + 1, .inl ⟨rfl, rfl⟩, ?_, u1.at1 hE hEa, u1.at1 hT hTa, hB1, up1⟩))
        rw [em]; rfl
      · refine q_tup (a_cons (qv 4 rfl (a_cons (q_sub (qv 4 rfl (q_int ?_))))))
        refine a_nil ⟨i + 1, i, .inr ⟨rfl, rfl⟩, ?_, u1.at1 hE hEa, u1.at1 hT hTa, hB1, up1⟩
        rw [em]; rfl
    · rintro _ G2 ⟨x, y, hxy, rfl, hE2, hT2, hB2, up2⟩
      refine s_cons (s_expr (q_append (qv 3 rfl ⟨E0, _, rfl, hE2, ?_⟩)))
      refine a_cons (q_add (qv 5 rfl (q_tup (a_cons (q_add (q_int (q_cal CT hr (a_cons (qv 0 rfl (a_cons (q_ix (q_lst (a_cons (q_int (a_cons (q_pow (q_int (q_int ⟨⟨by decide, by decide, by decide⟩, ?_⟩))))))))))))))))))
      refine a_nil fun p hp => ?_
      have hpa : p ≠ a := by obtain ⟨_, h, _⟩ := hB2; exact (ane_none h hp).symm
      refine q_cal CT hr (a_cons (qv 0 rfl (a_cons (q_int (a_nil ⟨a, n + 37 - 3 * i, 2, rfl, (hB2.new hp).less (by omega), by decide, by decide, fun r G3 r0 r1 off hB3 => ?_⟩)))))
      have u3 : Upto [a] G2 G3 := (Upto.refl.new hp).trans (.off off)
      obtain ⟨mm, hat, mpos, mlt⟩ : ∃ mm : Int, atI ([.int 9, .int (10 ^ (12 : Int).toNat)] : List W) r = some (.int mm) ∧ 0 < mm ∧ mm < 2 ^ 60 := by
        have : r = 0 ∨ r = 1 := by omega
        rcases this with rfl | rfl
        · exact ⟨9, rfl, by decide, by decide⟩
        · exact ⟨10 ^ (12 : Int).toNat, rfl, by decide, by decide⟩
      refine ⟨_, _, by rw [off p (by simpa using hpa)]; exact aup_same, hat, ?_⟩
      refine a_nil ⟨a, n + 36 - 3 * i, mm, rfl, hB3.less (by omega), mpos, mlt, fun r' G4 r0' r1' off' hB4 => ?_⟩
      have u4 : Upto [a] G2 G4 := u3.trans (.off off')
      refine a_cons (q_tup (a_cons (q_str (a_nil (a_nil ⟨?_, ?_⟩)))))
      · show 2 + 2 ≤ sizeLine; decide
      refine a_nil ⟨_, u4.at1 hE2 hEa, ?_, ?_⟩
      · show (es.map _).length < sizeLine
        rw [List.length_map, hl]
        exact Nat.lt_trans hi3 (by decide)
      refine s_nil ⟨es ++ [⟨x, y, 1 + r', .tup [.str "told"]⟩], some (.int ((i + 1 : Nat) : Int)), some (.tup [.int x, .int y]), rfl, by rw [List.length_append, hl]; rfl, fun k e h => ?_, ?_, ?_, ?_, ?_⟩
      · by_cases hk : k < es.length
        · rw [List.getElem?_append_left hk] at h; exact hes k e h
        · rw [List.getElem?_append_right (by omega)] at h
          have hk0 : k - es.length = 0 := by
            by_cases z : k - es.length = 0
            · exact z
            · rw [List.getElem?_eq_none (by simp; omega)] at h; cases h
          rw [hk0] at h
          cases h
          have : k = i := by omega
          subst this
          exact ⟨hxy, by show (1 : Int) ≤ 1 + r'; omega⟩
      · rw [aup_same]; unfold eW; rw [List.map_append]; rfl
      · rw [aup_ne hET.symm]; exact u4.at1 hT2 hTa
      · exact (hB4.old hEa.symm).less (by omega)
      · exact (up2.trans u4).putN hE00
  · subst e1
    have hlen : (rngW 1 1 ((many : Int) - 1).toNat).length = many - 1 := by rw [rngW_length]; omega
    rw [hlen] at hl hBx
    have hB1 : BoxAt G' a (n + 30) := hBx.less (by omega)
    clear hBx hB3 hT3 hE3 up3
    -- arms
    refine s_cons (s_set (i := 6) sc_case.nd (q_add (q_int (q_cal CT hr (a_cons (qv 0 rfl (a_cons (q_int (a_nil ⟨a, n + 29, 3, rfl, hB1, by decide, by decide, fun r G1 r0 r1 off hB2 => ?_⟩)))))))))
    obtain ⟨arms, harms, a2, a4⟩ : ∃ arms : Nat, 2 + r = arms ∧ 2 ≤ arms ∧ arms ≤ 4 := ⟨(2 + r).toNat, by omega, by omega, by omega⟩
    refine SQ.st [some (.ref a), some (.int many), some (.ref T0), some (.ref E0), v, v', some (.int arms), none, none, none, none] (by rw [← harms]; rfl) ?_
    have hT1 := (Upto.off off).at1 hT hTa
    have hE1 := (Upto.off off).at1 hE hEa
    have up1 := up.trans (.off off)
    clear off harms r0 r1 hT hE up hB1
    -- one
    refine s_cons (s_setLc (i := 7) sc_case.nd (blkOk_by (N := ["box", "many", "terms", "edges", "k", "ends", "arms", "one", "other", "word", "part"]) (sc := defScope sCase) (own := [("k", 4)]) (by decide +kernel)) (i_range1 rfl B.range (qv 6 rfl ⟨by omega, by omega, ⟨fun O hO0 => ?_⟩⟩)))
    have hOa : O ≠ a := by obtain ⟨_, h, _⟩ := hB2; exact (ane_none h hO0).symm
    have hO00 : G O = none := up1.free hO0 (by simpa using hOa)
    refine ⟨fun i G' => ∃ ks : List Nat, ks.length = i ∧ (∀ x ∈ ks, x < many) ∧ G' O = some (.lst (nW ks)) ∧ BoxAt G' a (n + 29 - i) ∧ Upto [a, O] G1 G', ⟨[], rfl, (fun x h => by cases h), aup_same, hB2.new hO0, Upto.refl.new hO0⟩, fun _ _ _ _ => trivial, fun i x G' hx ⟨ks, hk, hks, hO, hBx, up⟩ => ?_, fun G' ⟨ks, hk, hks, hO, hBx, up⟩ => ?_⟩
    · obtain ⟨hi, rfl⟩ := rng0_item hx
      have hi4 : i < 4 := by omega
      intro s0 H0 C cl fp
      refine n_name (i := 4) sc_case.nd ?_
      intro s0 H0 C cl fp
      refine ts_nil (ifT ?_)
      intro s0 H0 C cl fp
      refine q_cal CT hr (a_cons (qv 0 rfl (a_cons (qv 1 rfl (a_nil ⟨a, n + 28 - i, many, rfl, hBx.less (by omega), by omega, by omega, fun r G2 r0 r1 off hB3 => ?_⟩)))))
      obtain ⟨x, rfl⟩ : ∃ x : Nat, r = x := ⟨r.toNat, by omega⟩
      refine ⟨nW ks, (Upto.off off).at1 hO hOa, ?_, ks ++ [x], by rw [List.length_append, hk]; rfl, fun y hy => ?_, ?_, ?_, ?_⟩
      · rw [nW_length, hk]; exact Nat.lt_trans hi4 (by decide)
      · rcases List.mem_append.mp hy with h | h
        · exact hks y h
        · rw [List.mem_singleton] at h; omega
      · rw [aup_same]; unfold nW; rw [List.map_append]; rfl
      · exact (hB3.old hOa.symm).less (by omega)
      · exact (up.trans ((Upto.off off).more (by simp))).put (by simp)
    · rw [rngW_length] at hk hBx
      have hkl : ks.length = arms := by omega
      have hB3 : BoxAt G' a (n + 25) := hBx.less (by omega)
      have look : ∀ q o, G1 q = some o → q ≠ a → G' q = some o := fun q o h ha => up q o (by simp only [List.mem_cons, List.not_mem_nil, or_false, not_or]; exact ⟨ha, ane_none h hO0⟩) h
      have hT2 := look _ _ hT1 hTa
      have hE2 := look _ _ hE1 hEa
      have hOT : O ≠ T0 := (ane_none hT1 hO0).symm
      have hOE : O ≠ E0 := (ane_none hE1 hO0).symm
      have up2 : Upto [a] G G' := fun q o n e => up q o (by
        simp only [List.mem_cons, List.not_mem_nil, or_false, not_or]
        exact ⟨by simpa using n, ane_none e hO00⟩) (up1 q o n e)
      clear look up hBx hB2 hT1 hE1 up1 hO0
      -- other
      refine SQ.st [some (.ref a), some (.int many), some (.ref T0), some (.ref E0), v, v', some (.int arms), some (.ref O), none, none, none] rfl ?_
      refine s_cons (s_setLc (i := 8) sc_case.nd (blkOk_by (N := ["box", "many", "terms", "edges", "k", "ends", "arms", "one", "other", "word", "part"]) (sc := defScope sCase) (own := [("part", 10)]) (by decide +kernel)) (i_list (qv 7 rfl ⟨O, _, rfl, hO, ⟨fun R hR0 => ?_⟩⟩)))
      have hRa : R ≠ a := by obtain ⟨_, h, _⟩ := hB3; exact (ane_none h hR0).symm
      have hRT : R ≠ T0 := (ane_none hT2 hR0).symm
      have hRE : R ≠ E0 := (ane_none hE2 hR0).symm
      have hRO : R ≠ O := (ane_none hO hR0).symm
      have hR00 : G R = none := up2.free hR0 (by simpa using hRa)
      refine ⟨fun i G2 => ∃ js : List Nat, js.length = i ∧ (∀ x ∈ js, x < many) ∧ G2 R = some (.lst (nW js)) ∧ BoxAt G2 a (n + 25 - 2 * i) ∧ Upto [a, R] G' G2, ⟨[], rfl, (fun x h => by cases h), aup_same, hB3.new hR0, Upto.refl.new hR0⟩, fun i G2 _ ⟨_, _, _, _, _, u⟩ => u O _ (by simp only [List.mem_cons, List.not_mem_nil, or_false, not_or]; exact ⟨hOa, hRO.symm⟩) hO, fun i x G2 hx ⟨js, hj, hjs, hR, hBx, up⟩ => ?_, fun G2 ⟨js, hj, hjs, hR, hBx, up⟩ => ?_⟩
      · obtain ⟨kk, hkk, rfl⟩ : ∃ kk, ks[i]? = some kk ∧ W.int (kk : Nat) = x := by
          rw [nW, List.getElem?_map] at hx
          exact Option.map_eq_some_iff.mp hx
        have hi4 : i < 4 := by have := (List.getElem?_eq_some_iff.mp hkk).1; omega
        have hkm : kk < many := hks kk (List.mem_of_getElem? hkk)
        intro s0 H0 C cl fp
        refine n_name (i := 10) sc_case.nd ?_
        intro s0 H0 C cl fp
        refine ts_nil (ifT ?_)
        intro s0 H0 C cl fp
        refine q_if (b_eq (u64 hr) (q_cal CT hr (a_cons (qv 0 rfl (a_cons (q_int (a_nil ⟨a, n + 24 - 2 * i, 2, rfl, hBx.less (by omega), by decide, by decide, fun r G3 r0 r1 off hB4 => ?_⟩)))))))
        have fin : ∀ (x : Nat) (G4 : AH), x < many → Upto [a] G2 G4 → BoxAt G4 a (n + 25 - 2 * (i + 1)) → ∃ acc, G4 R = some (.lst acc) ∧ acc.length < sizeLine ∧ ∃ js : List Nat, js.length = i + 1 ∧ (∀ x ∈ js, x < many) ∧ (aup G4 R (.lst (acc ++ [W.int x]))) R = some (.lst (nW js)) ∧ BoxAt (aup G4 R (.lst (acc ++ [W.int x]))) a (n + 25 - 2 * (i + 1)) ∧ Upto [a, R] G' (aup G4 R (.lst (acc ++ [W.int x]))) := fun x G4 hx u hB => by
          refine ⟨nW js, u.at1 hR hRa, ?_, js ++ [x], by rw [List.length_append, hj]; rfl, fun y hy => ?_, ?_, ?_, ?_⟩
          · rw [nW_length, hj]; exact Nat.lt_trans hi4 (by decide)
          · rcases List.mem_append.mp hy with h | h
            · exact hjs y h
            · rw [List.mem_singleton] at h; omega
          · rw [aup_same]; unfold nW; rw [List.map_append]; rfl
          · exact hB.old hRa.symm
          · exact (up.trans (u.more (by simp))).put (by simp)
        refine q_int ?_
        refine ifB_dec (fun h => ?_) (fun h => ?_)
        · exact qv 10 rfl (fin kk G3 hkm (.off off) (hB4.less (by omega)))
        · refine q_cal CT hr (a_cons (qv 0 rfl (a_cons (qv 1 rfl (a_nil ⟨a, n + 23 - 2 * i, many, rfl, hB4.less (by omega), by omega, by omega, fun r G4 r0 r1 off' hB5 => ?_⟩)))))
          obtain ⟨x, rfl⟩ : ∃ x : Nat, r = x := ⟨r.toNat, by omega⟩
          exact fin x G4 (by omega) ((Upto.off off).trans (.off off')) (hB5.less (by omega))
      · have ekl : (nW ks).length = arms := by rw [nW_length]; exact hkl
        rw [ekl] at hj hBx
        have hB4 : BoxAt G2 a (n + 17) := hBx.less (by omega)
        have look : ∀ q o, G' q = some o → q ≠ a → G2 q = some o := fun q o h ha => up q o (by simp only [List.mem_cons, List.not_mem_nil, or_false, not_or]; exact ⟨ha, ane_none h hR0⟩) h
        have hT3 := look _ _ hT2 hTa
        have hE3 := look _ _ hE2 hEa
        have hO3 := look _ _ hO hOa
        have up3 : Upto [a] G G2 := fun q o n e => up q o (by
          simp only [List.mem_cons, List.not_mem_nil, or_false, not_or]
          exact ⟨by simpa using n, ane_none e hR00⟩) (up2 q o n e)
        clear look up hBx hB3 hT2 hE2 hO up2 hR0
        refine SQ.st [some (.ref a), some (.int many), some (.ref T0), some (.ref E0), v, v', some (.int arms), some (.ref O), some (.ref R), none, none] rfl ?_
        -- the two lists differ
        refine s_cons (s_cut (P := fun ρ3 G3 => ∃ js' : List Nat, js'.length = arms ∧ (∀ x ∈ js', x < many) ∧ ks ≠ js' ∧ ρ3 = [some (.ref a), some (.int many), some (.ref T0), some (.ref E0), v, v', some (.int arms), some (.ref O), some (.ref R), none, none] ∧ G3 = aup G2 R (.lst (nW js'))) ?_ ?_)
        · refine s_if (b_eq (u64 hr) (qv 7 rfl (qv 8 rfl (fEq_nats hO3 hR ?_))))
          refine ifB_dec (fun h => ?_) (fun h => ?_)
          · subst h
            refine s_cons (s_asg (q_mod (q_add (q_ix (qv 7 rfl (q_int ⟨_, _, hO3, nW_at (i := 0) (by omega), ?_⟩))))))
            refine q_int (qv 1 rfl ⟨by omega, ?_⟩)
            refine g_ix (qv 8 rfl (q_int ⟨_, 0, hR, ixN_nat (j := 0) (by rw [nW_length]; omega), ?_⟩))
            refine s_nil ⟨ks.set 0 ((ks.getD 0 0 + 1) % many), by rw [List.length_set]; exact hkl, mem_set_lt hks (Nat.mod_lt _ (by omega)), bump_ne m2 (by omega) hks, rfl, ?_⟩
            rw [← nW_set]; rfl
          · exact s_nil ⟨js, hj, hjs, h, rfl, (aup_id hR).symm⟩
        rintro _ _ ⟨js', hj', hjs', hne, rfl, rfl⟩
        have hO4 : (aup G2 R (.lst (nW js'))) O = some (.lst (nW ks)) := by rw [aup_ne hRO.symm]; exact hO3
        have hR4 : (aup G2 R (.lst (nW js'))) R = some (.lst (nW js')) := aup_same
        have hT4 : (aup G2 R (.lst (nW js'))) T0 = some _ := (aup_ne hRT.symm).trans hT3
        have hE4 : (aup G2 R (.lst (nW js'))) E0 = some _ := (aup_ne hRE.symm).trans hE3
        have hB5 := hB4.old (o := .lst (nW js')) hRa.symm
        have up4 : Upto [a] G (aup G2 R (.lst (nW js'))) := up3.putN hR00
        generalize aup G2 R (.lst (nW js')) = G3 at hO4 hR4 hT4 hE4 hB5 up4 ⊢
        clear hO3 hR hT3 hE3 hB4 up3 hj hjs
        refine s_cons (s_cut (P := fun ρ3 G4 => ∃ ks' js'' : List Nat, ks'.length = arms ∧ js''.length = arms ∧ (∀ x ∈ ks', x < many) ∧ (∀ x ∈ js'', x < many) ∧ ks' ≠ js'' ∧ ρ3 = [some (.ref a), some (.int many), some (.ref T0), some (.ref E0), v, v', some (.int arms), some (.ref O), some (.ref R), none, none] ∧ G4 O = some (.lst (nW ks')) ∧ G4 R = some (.lst (nW js'')) ∧ G4 T0 = some (.lst (tW ((words4.take many).map Tm.name))) ∧ G4 E0 = some (.lst (eW es)) ∧ BoxAt G4 a (n + 16) ∧ Upto [a] G G4) ?_ ?_)
        · refine s_if (b_eq (u64 hr) (q_cal CT hr (a_cons (qv 0 rfl (a_cons (q_int (a_nil ⟨a, n + 16, 2, rfl, hB5, by decide, by decide, fun r G4 r0 r1 off hB6 => ?_⟩)))))))
          have u : Upto [a] G3 G4 := .off off
          have hO5 := u.at1 hO4 hOa
          have hR5 := u.at1 hR4 hRa
          have hT5 := u.at1 hT4 hTa
          have hE5 := u.at1 hE4 hEa
          have up5 := up4.trans u
          refine q_int ?_
          refine ifB_dec (fun h => ?_) (fun h => ?_)
          · refine s_cons (s_asg (q_tup (a_cons (q_ix (qv 8 rfl (q_int ⟨_, _, hR5, nW_at (i := 0) (by omega), ?_⟩))))))
            refine a_cons (q_ix (qv 8 rfl (q_int ⟨_, _, hR5, nW_at (i := 0) (by omega), ?_⟩)))
            refine a_nil (g_tup rfl (gs_cons (g_ix (qv 7 rfl (q_neg (q_int ⟨_, arms - 1, hO5, by rw [nW_length, hkl]; exact ixN_last (by omega), ?_⟩))))))
            refine gs_cons (g_ix (qv 8 rfl (q_neg (q_int ⟨nW js', arms - 1, by rw [aup_ne hRO]; exact hR5, by rw [nW_length, hj']; exact ixN_last (by omega), ?_⟩))))
            refine gs_nil ?_
            rw [nW_set, nW_set]
            have z0 : js'.getD 0 0 < many := getD_lt hjs' (by omega)
            have hO6 : (aup (aup G4 O (.lst (nW (ks.set (arms - 1) (js'.getD 0 0))))) R (.lst (nW (js'.set (arms - 1) (js'.getD 0 0))))) O = some (.lst (nW (ks.set (arms - 1) (js'.getD 0 0)))) := by rw [aup_ne hRO.symm]; exact aup_same
            have hR6 : (aup (aup G4 O (.lst (nW (ks.set (arms - 1) (js'.getD 0 0))))) R (.lst (nW (js'.set (arms - 1) (js'.getD 0 0))))) R = some (.lst (nW (js'.set (arms - 1) (js'.getD 0 0)))) := aup_same
            have hT6 : (aup (aup G4 O (.lst (nW (ks.set (arms - 1) (js'.getD 0 0))))) R (.lst (nW (js'.set (arms - 1) (js'.getD 0 0))))) T0 = some (.lst (tW ((words4.take many).map Tm.name))) := by rw [aup_ne hRT.symm, aup_ne hOT.symm]; exact hT5
            have hE6 : (aup (aup G4 O (.lst (nW (ks.set (arms - 1) (js'.getD 0 0))))) R (.lst (nW (js'.set (arms - 1) (js'.getD 0 0))))) E0 = some (.lst (eW es)) := by rw [aup_ne hRE.symm, aup_ne hOE.symm]; exact hE5
            have hB7 := (hB6.old (o := .lst (nW (ks.set (arms - 1) (js'.getD 0 0)))) hOa.symm).old (o := .lst (nW (js'.set (arms - 1) (js'.getD 0 0)))) hRa.symm
            have up6 : Upto [a] G (aup (aup G4 O (.lst (nW (ks.set (arms - 1) (js'.getD 0 0))))) R (.lst (nW (js'.set (arms - 1) (js'.getD 0 0))))) := (up5.putN hO00).putN hR00
            generalize aup (aup G4 O (.lst (nW (ks.set (arms - 1) (js'.getD 0 0))))) R (.lst (nW (js'.set (arms - 1) (js'.getD 0 0)))) = G5 at hO6 hR6 hT6 hE6 hB7 up6 ⊢
            have l1 : (ks.set (arms - 1) (js'.getD 0 0)).length = arms := by rw [List.length_set]; exact hkl
            have l2 : (js'.set (arms - 1) (js'.getD 0 0)).length = arms := by rw [List.length_set]; exact hj'
            have t1 : ∀ x ∈ ks.set (arms - 1) (js'.getD 0 0), x < many := mem_set_lt hks z0
            have t2 : ∀ x ∈ js'.set (arms - 1) (js'.getD 0 0), x < many := mem_set_lt hjs' z0
            generalize ks.set (arms - 1) (js'.getD 0 0) = ks2 at *
            generalize js'.set (arms - 1) (js'.getD 0 0) = js2 at *
            refine s_cons (s_if (b_eq (u64 hr) (qv 7 rfl (qv 8 rfl (fEq_nats hO6 hR6 ?_)))))
            refine ifB_dec (fun h => ?_) (fun h => ?_)
            · subst h
              refine s_cons (s_asg (q_mod (q_add (q_ix (qv 8 rfl (q_int ⟨_, _, hR6, nW_at (i := 0) (by omega), ?_⟩))))))
              refine q_int (qv 1 rfl ⟨by omega, ?_⟩)
              refine g_ix (qv 8 rfl (q_int ⟨_, 0, hR6, ixN_nat (j := 0) (by rw [nW_length]; omega), ?_⟩))
              refine s_nil (s_nil ⟨ks2, ks2.set 0 ((ks2.getD 0 0 + 1) % many), l1, by rw [List.length_set]; exact l1, t1, mem_set_lt t1 (Nat.mod_lt _ (by omega)), bump_ne m2 (by omega) t1, rfl, by rw [aup_ne hRO.symm]; exact hO6, ?_, by rw [aup_ne hRT.symm]; exact hT6, by rw [aup_ne hRE.symm]; exact hE6, hB7.old hRa.symm, up6.putN hR00⟩)
              rw [aup_same, ← nW_set]; rfl
            · exact s_nil (s_nil ⟨ks2, js2, l1, l2, t1, t2, h, rfl, hO6, hR6, hT6, hE6, hB7, up6⟩)
          · exact s_nil ⟨ks, js', hkl, hj', hks, hjs', hne, rfl, hO5, hR5, hT5, hE5, hB6, up5⟩
        rintro _ G4 ⟨one, other, l1, l2, t1, t2, hne2, rfl, hO5, hR5, hT5, hE5, hB6, up5⟩
        refine s_cons (s_set (i := 2) sc_case.nd (q_add (qv 2 rfl (q_lst (a_cons (q_tup (a_cons (q_str (a_cons (q_str (a_cons (q_tuple B.tuple (a_cons (qv 7 rfl (a_nil ⟨_, hO5, ?_⟩)))))))))))))))
        refine a_nil ?_
        refine a_cons (q_tup (a_cons (q_str (a_cons (q_str (a_cons (q_tuple B.tuple (a_cons (qv 8 rfl (a_nil ⟨_, hR5, ?_⟩))))))))))
        refine a_nil ?_
        refine a_nil fun p1 hp1 => ?_
        refine ⟨_, _, aup_new hp1 hT5, aup_same, ?_, fun p2 hp2 => ?_⟩
        · rw [tW_length, List.length_map, List.length_take]
          refine Nat.le_trans (m := 6) ?_ (by decide)
          simp only [List.length_cons, List.length_nil]
          omega
        obtain ⟨hp3, hp4⟩ := aup_free hp2
        refine s_cons (s_ret (q_tup (a_cons (qv 2 rfl (a_cons (qv 3 rfl (a_cons (qv 7 rfl (a_cons (qv 8 rfl (a_nil ?_)))))))))))
        have hpa : p2 ≠ a := by obtain ⟨_, h, _⟩ := hB6; exact (ane_none h hp3).symm
        refine ⟨_, Sub.refl, k p2 E0 O R many ((words4.take many).map Tm.name ++ [Tm.of "f" one, Tm.of "f" other]) es one other _ ((up5.new hp1).new hp2) (((hB6.new hp1).new hp2).less (by omega)) hpa hEa hOa hRa ?_ (aup_new hp2 (aup_new hp1 hE5)) (aup_new hp2 (aup_new hp1 hO5)) (aup_new hp2 (aup_new hp1 hR5)) ⟨m2, m4, rfl, hl, hes, by omega, by omega, by omega, t1, t2, hne2⟩⟩
        rw [aup_same]
        unfold tW
        rw [List.map_append]
        rfl
end
end SW
namespace SW
open PySem PySem.Spec L2 AL
/-! ### what the books of a case say -/
def prR (r : Row) : (Int × Int) × Int := ((r.a, r.b), r.len)
theorem lkA_app (ab cd : Ab) (k : Int × Int) : lkA (ab ++ cd) k = (lkA ab k).or (lkA cd k) := by
  unfold lkA
  rw [List.find?_append]
  cases ab.find? (fun p => decide (p.1 = k)) <;> rfl
theorem lkA_none {ab : Ab} {k : Int × Int} : lkA ab k = none ↔ ∀ p ∈ ab, p.1 ≠ k := by
  unfold lkA
  rw [Option.map_eq_none_iff, List.find?_eq_none]
  simp
theorem rowsM_app {ts : List Tm} {es : List Ed} {rest : List Row} : ∀ {rows : List Row} {ab : Ab}, (∀ r ∈ rows, ∀ ab, rowM ts es ab r = some r.len) → (∀ r ∈ rows, lkA ab (r.a, r.b) = none) → (rows.map fun r => (r.a, r.b)).Nodup → rowsM ts es (rows ++ rest) ab = rowsM ts es rest (ab ++ rows.map prR)
  | [], ab, _, _, _ => by simp
  | r :: rows, ab, h1, h2, h3 => by
    rw [List.cons_append, rowsM_cons, if_neg (by rw [h2 r List.mem_cons_self]; simp), if_pos (h1 r List.mem_cons_self ab)]
    rw [List.map_cons, List.nodup_cons] at h3
    rw [rowsM_app (fun q hq => h1 q (List.mem_cons_of_mem _ hq)) (fun q hq => ?_) h3.2, List.map_cons, List.append_assoc]
    · rfl
    · rw [lkA_app, h2 q (List.mem_cons_of_mem _ hq), Option.none_or, lkA_none]
      intro p hp
      rw [List.mem_singleton] at hp
      subst hp
      intro e
      exact h3.1 (List.mem_map.mpr ⟨q, hq, e.symm⟩)
def wayR (es : List Ed) (p : Nat × Nat) : Row := ⟨p.1, p.2, wayL es p.1 p.2, wayS p.1 p.2⟩
def loopR (es : List Ed) (x y : Nat) : Row := ⟨x, x, wayL es x y + wayL es y x, wayS x y ++ wayS y x⟩
def lastR (many : Nat) (L : Int) : Row := ⟨many, many + 1, L, [.like many (many + 1)]⟩
theorem wd_cases (a b : Nat) : (a < b ∧ wd a b = 1 ∧ wn a b = b - a) ∨ (¬ a < b ∧ wd a b = -1 ∧ wn a b = a - b) := by
  unfold wd wn
  by_cases h : a < b
  · exact .inl ⟨h, by rw [if_pos h], by rw [if_pos h]⟩
  · exact .inr ⟨h, by rw [if_neg h], by rw [if_neg h]⟩
structure Line (ts : List Tm) (es : List Ed) (many : Nat) : Prop where
  len : es.length = many - 1
  tl : many ≤ ts.length
  ends : ∀ k e, es[k]? = some e → ((e.a = k ∧ e.b = k + 1) ∨ (e.a = k + 1 ∧ e.b = k)) ∧ 1 ≤ e.w
theorem edge_place {ts : List Tm} {es : List Ed} {many : Nat} (L : Line ts es many) {a b i : Nat} (ha : a < many) (hb : b < many) (hi : i < wn a b) (ab : Ab) :
    (wst a b i).fr = a + i * wd a b ∧ (wst a b i).to = a + (i + 1 : Nat) * wd a b ∧ partM ts es ab (wst a b i) = some (spLen es (wst a b i)) ∧ 1 ≤ spLen es (wst a b i) := by
  refine ⟨rfl, ?_, ?_⟩
  · show (a : Int) + i * wd a b + wd a b = _
    rcases wd_cases a b with ⟨_, e, _⟩ | ⟨_, e, _⟩ <;> rw [e] <;> omega
  obtain ⟨pl, hpl, hlt, hends⟩ : ∃ pl : Nat, (if wd a b > 0 then (a : Int) + i * wd a b else a + i * wd a b - 1) = pl ∧ pl < es.length ∧ (((pl : Int) = a + i * wd a b ∧ ((pl + 1 : Nat) : Int) = a + i * wd a b + wd a b) ∨ (((pl + 1 : Nat) : Int) = a + i * wd a b ∧ (pl : Int) = a + i * wd a b + wd a b)) := by
    have := L.len
    rcases wd_cases a b with ⟨h, e, e2⟩ | ⟨h, e, e2⟩
    · rw [e2] at hi
      exact ⟨a + i, by rw [e, if_pos (by decide)]; omega, by omega, .inl ⟨by rw [e]; omega, by rw [e]; omega⟩⟩
    · rw [e2] at hi
      exact ⟨a - i - 1, by rw [e, if_neg (by decide)]; omega, by omega, .inr ⟨by rw [e]; omega, by rw [e]; omega⟩⟩
  have eq : wst a b i = .edge (a + i * wd a b) (a + i * wd a b + wd a b) pl := by unfold wst; rw [hpl]
  have hget : es[pl]? = some (es.getD pl zEd) := by simp [List.getD, hlt]
  obtain ⟨en, w1⟩ := L.ends pl _ hget
  rw [eq]
  refine ⟨?_, w1⟩
  show edgeM es _ _ _ = some (es.getD (pl : Int).toNat zEd).w
  unfold edgeM
  rw [if_pos (by omega), show (pl : Int).toNat = pl from rfl, hget]
  show (if _ then _ else _) = _
  rw [if_pos]
  rcases en with ⟨e1, e2⟩ | ⟨e1, e2⟩ <;> rw [e1, e2]
  · rcases hends with ⟨h1, h2⟩ | ⟨h1, h2⟩
    · exact .inl ⟨h1, h2⟩
    · exact .inr ⟨h1, h2⟩
  · rcases hends with ⟨h1, h2⟩ | ⟨h1, h2⟩
    · exact .inr ⟨h1, h2⟩
    · exact .inl ⟨h1, h2⟩
theorem way_fold {ts : List Tm} {es : List Ed} {many : Nat} (L : Line ts es many) {a b : Nat} (ha : a < many) (hb : b < many) (ab : Ab) (l0 : Int) : (wayS a b).foldl (walkStep ts es ab) (some (a, l0)) = some ((b : Int), l0 + wayL es a b) := by
  have go : ∀ i, i ≤ wn a b → ((wayS a b).take i).foldl (walkStep ts es ab) (some (a, l0)) = some ((a : Int) + i * wd a b, l0 + (((wayS a b).take i).map (spLen es)).sum) := by
    intro i
    induction i with
    | zero => intro _; simp
    | succ i ih =>
      intro hi
      have e := edge_place L ha hb (show i < wn a b by omega) ab
      rw [List.take_succ, wayS_at (show i < wn a b by omega), List.foldl_append, ih (by omega)]
      show walkStep ts es ab (some _) (wst a b i) = _
      unfold walkStep
      show (if (wst a b i).fr = _ then _ else _) = _
      rw [if_pos e.1, e.2.2.1]
      show some ((wst a b i).to, _) = _
      rw [e.2.1, List.map_append, List.sum_append]
      show some (_, _) = some (_, l0 + (_ + (spLen es (wst a b i) + 0)))
      rw [Int.add_zero, Int.add_assoc]
  have := go (wn a b) (Nat.le_refl _)
  rw [← wayS_len, List.take_length, wayS_len] at this
  rw [this]
  have : (a : Int) + (wn a b : Nat) * wd a b = b := by
    rcases wd_cases a b with ⟨h, e, e2⟩ | ⟨h, e, e2⟩ <;> rw [e, e2] <;> omega
  rw [this]; rfl
theorem way_pos {ts : List Tm} {es : List Ed} {many : Nat} (L : Line ts es many) {a b : Nat} (ha : a < many) (hb : b < many) : (wn a b : Int) ≤ wayL es a b := by
  have go : ∀ i, i ≤ wn a b → (i : Int) ≤ (((wayS a b).take i).map (spLen es)).sum := by
    intro i
    induction i with
    | zero => intro _; simp
    | succ i ih =>
      intro hi
      have e := edge_place L ha hb (show i < wn a b by omega) []
      have := ih (by omega)
      rw [List.take_succ, wayS_at (show i < wn a b by omega), List.map_append, List.sum_append]
      show _ ≤ _ + (spLen es (wst a b i) + 0)
      have := e.2.2.2
      omega
  have := go (wn a b) (Nat.le_refl _)
  rw [← wayS_len, List.take_length, wayS_len] at this
  exact this
theorem way_self (es : List Ed) (a : Nat) : wayL es a a = 0 := by
  unfold wayL wayS
  have : wn a a = 0 := by unfold wn; simp
  rw [this]; rfl
theorem way_valid {ts : List Tm} {es : List Ed} {many : Nat} (L : Line ts es many) {p : Nat × Nat} (ha : p.1 < many) (hb : p.2 < many) (ab : Ab) : rowM ts es ab (wayR es p) = some (wayR es p).len := by
  have tl := L.tl
  unfold rowM
  rw [if_pos (by show 0 ≤ (p.1 : Int) ∧ (p.1 : Int) < _; omega)]
  have : walkM ts es ab (wayR es p).a (wayR es p).steps = some ((p.2 : Int), 0 + wayL es p.1 p.2) := way_fold L ha hb ab 0
  rw [this]
  show (if (p.2 : Int) = p.2 then _ else _) = _
  rw [if_pos rfl, Int.zero_add]; rfl
theorem loop_valid {ts : List Tm} {es : List Ed} {many : Nat} (L : Line ts es many) {x y : Nat} (ha : x < many) (hb : y < many) (ab : Ab) : rowM ts es ab (loopR es x y) = some (loopR es x y).len := by
  have tl := L.tl
  unfold rowM
  rw [if_pos (by show 0 ≤ (x : Int) ∧ (x : Int) < _; omega)]
  have : walkM ts es ab (loopR es x y).a (loopR es x y).steps = some ((x : Int), 0 + wayL es x y + wayL es y x) := by
    show (wayS x y ++ wayS y x).foldl _ _ = _
    rw [List.foldl_append]
    have := way_fold L ha hb ab 0
    rw [show (some (((loopR es x y).a), (0 : Int))) = some ((x : Int), (0 : Int)) from rfl, this]
    exact way_fold L hb ha ab _
  rw [this]
  show (if (x : Int) = x then _ else _) = _
  rw [if_pos rfl, Int.zero_add]; rfl
/-! ### the last row -/
theorem last_like {many : Nat} {ts : List Tm} {es : List Ed} {one other : List Nat} (C : CaseOk many ts es one other) (ab : Ab) : likeM ts ab many (many + 1) = likeSum ab (one.zip other) := by
  have m4 := C.m4
  have hl : ((words4.take many).map Tm.name).length = many := by rw [List.length_map, List.length_take]; show min many 4 = many; omega
  have tl : ts.length = many + 2 := by rw [C.hts, List.length_append, hl]; rfl
  have t1 : ts[(many : Int).toNat]? = some (Tm.of "f" one) := by
    rw [C.hts, Int.toNat_natCast, List.getElem?_append_right (by omega), hl, Nat.sub_self]; rfl
  have t2 : ts[((many : Int) + 1).toNat]? = some (Tm.of "f" other) := by
    rw [C.hts, show ((many : Int) + 1).toNat = many + 1 by omega, List.getElem?_append_right (by omega), hl, show many + 1 - many = 1 by omega]; rfl
  unfold likeM
  rw [if_pos (by omega), if_neg (by omega), t1, t2]
  show (if alikeT (Tm.of "f" one) (Tm.of "f" other) = true then _ else _) = _
  rw [if_pos (by show (decide (("f" : Str) = "f") && decide (one.length = other.length)) = true; rw [C.leq]; simp)]
  rfl
theorem last_row {many : Nat} {ts : List Tm} {es : List Ed} {one other : List Nat} (C : CaseOk many ts es one other) (ab : Ab) (L : Int) : rowM ts es ab (lastR many L) = likeSum ab (one.zip other) := by
  have m4 := C.m4
  have tl : ts.length = many + 2 := by rw [C.hts, List.length_append, List.length_map, List.length_take]; show min many 4 + 2 = _; omega
  unfold rowM
  rw [if_pos (by show 0 ≤ (many : Int) ∧ (many : Int) < _; omega)]
  have : walkM ts es ab (lastR many L).a (lastR many L).steps = (likeSum ab (one.zip other)).map fun v => ((many : Int) + 1, 0 + v) := by
    show walkStep ts es ab (some ((many : Int), 0)) (.like many (many + 1)) = _
    unfold walkStep
    show (if (many : Int) = many then _ else _) = _
    rw [if_pos rfl]
    show (likeM ts ab many (many + 1)).map _ = _
    rw [last_like C]; rfl
  rw [this]
  cases likeSum ab (one.zip other) with
  | none => rfl
  | some v =>
    show (if (many : Int) + 1 = many + 1 then some (0 + v) else none) = _
    rw [if_pos rfl, Int.zero_add]
theorem likeSum_all {es : List Ed} {ab : Ab} {zs : List (Nat × Nat)} (h : ∀ p ∈ zs, p.1 ≠ p.2 → lkA ab ((p.1 : Int), (p.2 : Int)) = some (wayL es p.1 p.2)) : likeSum ab zs = some (1 + (zs.map fun p => wayL es p.1 p.2).sum) := by
  have go : ∀ (zs : List (Nat × Nat)) (l0 : Int), (∀ p ∈ zs, p.1 ≠ p.2 → lkA ab ((p.1 : Int), (p.2 : Int)) = some (wayL es p.1 p.2)) → zs.foldl (likeStep ab) (some l0) = some (l0 + (zs.map fun p => wayL es p.1 p.2).sum) := by
    intro zs
    induction zs with
    | nil => intro l0 _; simp
    | cons p zs ih =>
      intro l0 h
      rw [List.foldl_cons]
      have : likeStep ab (some l0) p = some (l0 + wayL es p.1 p.2) := by
        unfold likeStep
        show (if p.1 = p.2 then some l0 else _) = _
        by_cases e : p.1 = p.2
        · rw [if_pos e, e, way_self, Int.add_zero]
        · rw [if_neg e, h p List.mem_cons_self e]; rfl
      rw [this, ih _ (fun q hq => h q (List.mem_cons_of_mem _ hq)), List.map_cons, List.sum_cons, Int.add_assoc]
  exact go zs 1 h
theorem likeSum_miss {ab : Ab} {zs : List (Nat × Nat)} {p : Nat × Nat} (hp : p ∈ zs) (hne : p.1 ≠ p.2) (h : lkA ab ((p.1 : Int), (p.2 : Int)) = none) : likeSum ab zs = none := by
  obtain ⟨m, hm⟩ := List.getElem?_of_mem hp
  refine likeSum_stop (m := m + 1) ?_
  rw [likeSum_step hm]
  cases (zs.take m).foldl (likeStep ab) (some 1) with
  | none => rfl
  | some v =>
    show (if p.1 = p.2 then some v else _) = _
    rw [if_neg hne, h]; rfl
/-- a row of rows that hold -/
structure Fine (ts : List Tm) (es : List Ed) (many : Nat) (rows : List Row) : Prop where
  val : ∀ r ∈ rows, ∀ ab, rowM ts es ab r = some r.len
  nodup : (rows.map fun r => (r.a, r.b)).Nodup
  lt : ∀ r ∈ rows, r.a < many
section
variable {many : Nat} {ts : List Tm} {es : List Ed} {one other : List Nat} {rows : List Row}
theorem fine_rows (Fi : Fine ts es many rows) (rest : List Row) : rowsM ts es (rows ++ rest) [] = rowsM ts es rest (rows.map prR) := by
  have := rowsM_app (ts := ts) (es := es) (rest := rest) (rows := rows) (ab := []) Fi.val (fun _ _ => rfl) Fi.nodup
  rwa [List.nil_append] at this
theorem fine_last (Fi : Fine ts es many rows) : lkA (rows.map prR) ((many : Int), (many : Int) + 1) = none := by
  rw [lkA_none]
  intro p hp
  obtain ⟨r, hr, rfl⟩ := List.mem_map.mp hp
  have := Fi.lt r hr
  intro e
  have : r.a = many := congrArg Prod.fst e
  omega
theorem holds_last (C : CaseOk many ts es one other) (Fi : Fine ts es many rows) (L : Int) : holdsM ts es (rows ++ [lastR many L]) many (many + 1) = decide (likeSum (rows.map prR) (one.zip other) = some L) := by
  unfold holdsM
  rw [fine_rows Fi, List.getLast?_append]
  show (rowsM ts es [lastR many L] (rows.map prR) && decide ((many : Int) = many ∧ (many : Int) + 1 = many + 1)) = _
  rw [rowsM_cons, if_neg (by rw [show lkA (rows.map prR) ((lastR many L).a, (lastR many L).b) = none from fine_last Fi]; simp), last_row C]
  have e : decide ((many : Int) = many ∧ (many : Int) + 1 = many + 1) = true := by simp
  rw [e, Bool.and_true]
  show (if likeSum (rows.map prR) (one.zip other) = some L then true else false) = _
  by_cases h : likeSum (rows.map prR) (one.zip other) = some L
  · rw [if_pos h, decide_eq_true h]
  · rw [if_neg h, decide_eq_false h]
theorem rows_miss (C : CaseOk many ts es one other) (Fi : Fine ts es many rows) {L : Int} (h : likeSum (rows.map prR) (one.zip other) = none) (rest : List Row) : rowsM ts es (rows ++ lastR many L :: rest) [] = false := by
  rw [fine_rows Fi, rowsM_cons, if_neg (by rw [show lkA (rows.map prR) ((lastR many L).a, (lastR many L).b) = none from fine_last Fi]; simp), last_row C, h, if_neg (by simp)]
theorem rows_twice (Fi : Fine ts es many rows) {r : Row} (hr : r ∈ rows) (rest : List Row) : rowsM ts es (rows ++ r :: rest) [] = false := by
  rw [fine_rows Fi, rowsM_cons, if_pos]
  cases h : lkA (rows.map prR) (r.a, r.b) with
  | some v => rfl
  | none => exact absurd rfl (lkA_none.mp h (prR r) (List.mem_map_of_mem hr))
theorem rows_last2 (Fi : Fine ts es many rows) (L : Int) : rowsM ts es (rows ++ [lastR many L, lastR many L]) [] = false := by
  rw [fine_rows Fi, rowsM_cons]
  split
  · rfl
  · split
    · rw [rowsM_cons, if_pos]
      cases h : lkA (rows.map prR ++ [(((lastR many L).a, (lastR many L).b), (lastR many L).len)]) ((lastR many L).a, (lastR many L).b) with
      | some v => rfl
      | none => exact absurd rfl (lkA_none.mp h _ (List.mem_append_right _ (List.mem_singleton.mpr rfl)))
    · rfl
theorem holds_nolast (Fi : Fine ts es many rows) : holdsM ts es rows many (many + 1) = false := by
  unfold holdsM
  rw [Bool.and_eq_false_iff]
  right
  cases h : rows.getLast? with
  | none => rfl
  | some r =>
    have := Fi.lt r (List.mem_of_getLast? h)
    refine decide_eq_false fun e => ?_
    omega
theorem nodup_inj {α β : Type} {f : α → β} : ∀ {xs : List α}, (xs.map f).Nodup → ∀ {a b : α}, a ∈ xs → b ∈ xs → f a = f b → a = b
  | [], _, a, b, h, _, _ => by cases h
  | x :: xs, nd, a, b, ha, hb, e => by
    rw [List.map_cons, List.nodup_cons] at nd
    rcases List.mem_cons.mp ha with h | h <;> rcases List.mem_cons.mp hb with h' | h'
    · rw [h, h']
    · subst h; exact absurd (List.mem_map.mpr ⟨b, h', e.symm⟩) nd.1
    · subst h'; exact absurd (List.mem_map.mpr ⟨a, h, e⟩) nd.1
    · exact nodup_inj nd.2 h h' e
/-- the pair's row is there -/
theorem lk_rows (Fi : Fine ts es many rows) {r : Row} (hr : r ∈ rows) : lkA (rows.map prR) (r.a, r.b) = some r.len := by
  cases h : lkA (rows.map prR) (r.a, r.b) with
  | none => exact absurd rfl (lkA_none.mp h (prR r) (List.mem_map_of_mem hr))
  | some v =>
    unfold lkA at h
    obtain ⟨p, hp, e⟩ := Option.map_eq_some_iff.mp h
    have hk := List.find?_some hp
    obtain ⟨q, hq, rfl⟩ := List.mem_map.mp (List.mem_of_find?_eq_some hp)
    have hk : (q.a, q.b) = (r.a, r.b) := of_decide_eq_true hk
    have : q = r := by
      have nd := Fi.nodup
      exact nodup_inj nd hq hr hk
    rw [← e, this]; rfl
theorem lk_no {k : Int × Int} (h : ∀ r ∈ rows, (r.a, r.b) ≠ k) : lkA (rows.map prR) k = none := by
  rw [lkA_none]
  intro p hp
  obtain ⟨r, hr, rfl⟩ := List.mem_map.mp hp
  exact h r hr
end
end SW
namespace SW
open PySem PySem.Spec L2 AL
/-! ### rows on the heap -/
def RowX (l : List Addr) (G : AH) (r : Row) (w : W) : Prop := ∃ s, s ∉ l ∧ w = rowW r s ∧ G s = some (.lst (r.steps.map Sp.W))
theorem RowX.upto {l : List Addr} {G G' : AH} {r : Row} {w : W} (h : RowX l G r w) (u : Upto l G G') : RowX l G' r w := let ⟨s, h1, h2, h3⟩ := h; ⟨s, h1, h2, u s _ h1 h3⟩
theorem RowX.less {l l' : List Addr} {G : AH} {r : Row} {w : W} (h : RowX l G r w) (s : ∀ q ∈ l', q ∈ l) : RowX l' G r w := let ⟨q, h1, h2, h3⟩ := h; ⟨q, fun z => h1 (s q z), h2, h3⟩
theorem RowX.at {l : List Addr} {G : AH} {r : Row} {w : W} (h : RowX l G r w) : RowAt G r w := let ⟨q, _, h2, h3⟩ := h; ⟨q, h2, h3⟩
def BkX (l : List Addr) (G : AH) (bk : List Row) (ws : List W) : Prop := Paired (RowX l G) bk ws
theorem BkX.upto {l : List Addr} {G G' : AH} {bk : List Row} {ws : List W} (h : BkX l G bk ws) (u : Upto l G G') : BkX l G' bk ws := Paired.mapP h fun _ _ z => z.upto u
theorem BkX.less {l l' : List Addr} {G : AH} {bk : List Row} {ws : List W} (h : BkX l G bk ws) (s : ∀ q ∈ l', q ∈ l) : BkX l' G bk ws := Paired.mapP h fun _ _ z => z.less s
theorem BkX.at {l : List Addr} {G : AH} {bk : List Row} {ws : List W} (h : BkX l G bk ws) : BkAt G bk ws := Paired.mapP h fun _ _ z => z.at
theorem paired_app {α β : Type} {R : α → β → Prop} {xs xs' : List α} {ys ys' : List β} (h : Paired R xs ys) (h' : Paired R xs' ys') : Paired R (xs ++ xs') (ys ++ ys') := by
  induction h with
  | nil => exact h'
  | cons a _ ih => exact .cons a ih
theorem paired_take {α β : Type} {R : α → β → Prop} {xs : List α} {ys : List β} (h : Paired R xs ys) : ∀ k, Paired R (xs.take k) (ys.take k) := by
  induction h with
  | nil => intro k; rw [List.take_nil, List.take_nil]; exact .nil
  | cons a _ ih => intro k; cases k with
    | zero => exact .nil
    | succ k => exact .cons a (ih k)
theorem paired_drop {α β : Type} {R : α → β → Prop} {xs : List α} {ys : List β} (h : Paired R xs ys) : ∀ k, Paired R (xs.drop k) (ys.drop k) := by
  induction h with
  | nil => intro k; rw [List.drop_nil, List.drop_nil]; exact .nil
  | cons a t ih => intro k; cases k with
    | zero => exact .cons a t
    | succ k => exact ih k
/-! ### a row as data -/
def rowD (r : Row) : PyData := .tuple [.int r.a, .int r.b, .int r.len, .list (pdWs (r.steps.map Sp.W))]
theorem okWs_sp (ss : List Sp) : okWs (ss.map Sp.W) = true := by
  induction ss with
  | nil => rfl
  | cons s ss ih =>
    show (okW s.W && okWs (ss.map Sp.W)) = true
    rw [ih, Bool.and_true]
    have e1 : PyData.strOk ("edge" : Str) = true := by decide +kernel
    have e2 : PyData.strOk ("like" : Str) = true := by decide +kernel
    cases s with
    | edge a b p => show (PyData.strOk ("edge" : Str) && _) = true; rw [e1]; rfl
    | like a b => show (PyData.strOk ("like" : Str) && _) = true; rw [e2]; rfl
theorem dpWs_sp (ss : List Sp) : dpWs (ss.map Sp.W) ≤ 1 := by
  induction ss with
  | nil => exact Nat.zero_le _
  | cons s ss ih =>
    show max (dpW s.W) (dpWs (ss.map Sp.W)) ≤ 1
    refine Nat.max_le.mpr ⟨?_, ih⟩
    cases s <;> exact Nat.le_refl _
theorem rowD_lay (r : Row) : PyData.canLay0 (rowD r) = true := by
  show (true && (true && (true && (PyData.canLayAll0 (pdWs (r.steps.map Sp.W)) && true)))) = true
  rw [pds_lay _ (okWs_sp _)]; rfl
theorem rowD_dep (r : Row) : PyData.depth (rowD r) ≤ 3 := by
  show max 0 (max 0 (max 0 (max (PyData.depthAll (pdWs (r.steps.map Sp.W)) + 1) 0))) + 1 ≤ 3
  rw [pds_depth]
  have := dpWs_sp r.steps
  omega
theorem rowD_DW {l : List Addr} {G : AH} {r : Row} {w : W} (h : RowX l G r w) : DW G w (rowD r) := by
  obtain ⟨s, _, rfl, h3⟩ := h
  exact .tup (.cons (.int _) (.cons (.int _) (.cons (.int _) (.cons (.lst h3 (DWs.of _ (okWs_sp _))) .nil))))
theorem rowsD_DW {l : List Addr} {G : AH} {bk : List Row} {ws : List W} (h : BkX l G bk ws) : DWs G ws (bk.map rowD) := by
  induction h with
  | nil => exact .nil
  | cons a _ ih => exact .cons (rowD_DW a) ih
theorem rowD_shaped (r : Row) : SeqAt.shaped (rowD r) = true := by
  unfold SeqAt.shaped
  rw [rowD_lay, Bool.true_and]
  exact decide_eq_true (Nat.le_trans (rowD_dep r) (by decide))
theorem rowsD_shaped (bk : List Row) : SeqAt.shaped (.list (bk.map rowD)) = true := by
  refine shaped_list ?_ ?_
  · induction bk with
    | nil => rfl
    | cons r bk ih =>
      show (PyData.canLay0 (rowD r) && _) = true
      rw [rowD_lay, ih]; rfl
  · induction bk with
    | nil => exact Nat.zero_le _
    | cons r bk ih =>
      show max (PyData.depth (rowD r)) _ ≤ 60
      exact Nat.max_le.mpr ⟨Nat.le_trans (rowD_dep r) (by decide), ih⟩
theorem rowD_eqv (r q : Row) : PyData.eqv (rowD r) (rowD q) = (decide (r.a = q.a) && (decide (r.b = q.b) && (decide (r.len = q.len) && eqWs (r.steps.map Sp.W) (q.steps.map Sp.W)))) := by
  show ((r.a == q.a) && ((r.b == q.b) && ((r.len == q.len) && (PyData.eqvAll (pdWs (r.steps.map Sp.W)) (pdWs (q.steps.map Sp.W)) && true)))) = _
  rw [pds_eqv _ _ (okWs_sp _) (okWs_sp _), Bool.and_true]
  have e : ∀ x y : Int, (x == y) = decide (x = y) := fun x y => rfl
  rw [e, e, e]
theorem way_eqv (es : List Ed) (p q : Nat × Nat) : PyData.eqv (rowD (wayR es p)) (rowD (wayR es q)) = decide (p = q) := by
  rw [rowD_eqv]
  by_cases h : p = q
  · subst h
    rw [eqWs_self]
    simp
  · rw [decide_eq_false h]
    by_cases h1 : (wayR es p).a = (wayR es q).a
    · by_cases h2 : (wayR es p).b = (wayR es q).b
      · exact absurd (Prod.ext (Int.ofNat_inj.mp h1) (Int.ofNat_inj.mp h2)) h
      · rw [decide_eq_false h2, Bool.false_and, Bool.and_false]
    · rw [decide_eq_false h1, Bool.false_and]
theorem way_in (es : List Ed) (wl : List (Nat × Nat)) (p : Nat × Nat) : (((wl.map (wayR es)).map rowD).any fun z => PyData.eqv z (rowD (wayR es p))) = decide (p ∈ wl) := by
  induction wl with
  | nil => rfl
  | cons q wl ih =>
    rw [List.map_cons, List.map_cons, List.any_cons, ih, way_eqv]
    by_cases e : q = p
    · subst e; simp
    · have e' : ¬ p = q := fun z => e z.symm
      simp [e, e']
/-! ### which rows -/
section
variable {many : Nat} {ts : List Tm} {es : List Ed} {one other : List Nat}
theorem CaseOk.line (C : CaseOk many ts es one other) : Line ts es many := ⟨C.hes, by
  have m4 := C.m4
  rw [C.hts, List.length_append, List.length_map, List.length_take]; show many ≤ min many 4 + 2; omega, C.ends⟩
theorem CaseOk.tlen (C : CaseOk many ts es one other) : ts.length = many + 2 := by
  have m4 := C.m4
  rw [C.hts, List.length_append, List.length_map, List.length_take]; show min many 4 + 2 = _; omega
theorem CaseOk.tsok (C : CaseOk many ts es one other) : TsOk ts := by
  have tl := C.tlen
  have m4 := C.m4
  have hl : ((words4.take many).map Tm.name).length = many := by rw [List.length_map, List.length_take]; show min many 4 = many; omega
  have at' : ∀ (i : Nat) (w : Str) (ks : List Nat), ts[i]? = some (Tm.of w ks) → many ≤ i ∧ (ks = one ∨ ks = other) := fun i w ks h => by
    rw [C.hts] at h
    by_cases hi : i < many
    · rw [List.getElem?_append_left (by omega), List.getElem?_map] at h
      obtain ⟨x, _, e⟩ := Option.map_eq_some_iff.mp h
      cases e
    · rw [List.getElem?_append_right (by omega)] at h
      refine ⟨by omega, ?_⟩
      have := List.mem_of_getElem? h
      simp only [List.mem_cons, List.not_mem_nil, or_false, Tm.of.injEq] at this
      rcases this with h | h
      · exact .inl h.2
      · exact .inr h.2
  refine ⟨fun i w ks h j hj => ?_, fun i w ks h => ?_, by omega⟩
  · obtain ⟨hi, h | h⟩ := at' i w ks h
    · subst h; have := C.lt1 j hj; omega
    · subst h; have := C.lt2 j hj; omega
  · obtain ⟨hi, h | h⟩ := at' i w ks h
    · subst h; exact C.l4
    · subst h; have := C.leq; have := C.l4; omega
theorem CaseOk.esok (C : CaseOk many ts es one other) : EsOk ts es := by
  have tl := C.tlen
  have m4 := C.m4
  have m2 := C.m2
  have hes := C.hes
  refine ⟨fun e he => ?_, by omega⟩
  obtain ⟨k, hk⟩ := List.getElem?_of_mem he
  have hkl := (List.getElem?_eq_some_iff.mp hk).1
  rcases (C.ends k e hk).1 with ⟨h1, h2⟩ | ⟨h1, h2⟩ <;> omega
theorem Fine.sub {rows rows' : List Row} (Fi : Fine ts es many rows) (s : rows'.Sublist rows) : Fine ts es many rows' := ⟨fun r hr => Fi.val r (s.subset hr), Fi.nodup.sublist (s.map _), fun r hr => Fi.lt r (s.subset hr)⟩
theorem fine_ways (L : Line ts es many) {wl : List (Nat × Nat)} (nd : wl.Nodup) (h : ∀ p ∈ wl, p.1 < many ∧ p.2 < many) : Fine ts es many (wl.map (wayR es)) := by
  refine ⟨fun r hr ab => ?_, ?_, fun r hr => ?_⟩
  · obtain ⟨p, hp, rfl⟩ := List.mem_map.mp hr
    exact way_valid L (h p hp).1 (h p hp).2 ab
  · rw [List.map_map]
    unfold List.Nodup
    rw [List.pairwise_map]
    refine nd.imp fun {p q} hne e => hne ?_
    have e : ((p.1 : Int), (p.2 : Int)) = ((q.1 : Int), (q.2 : Int)) := e
    exact Prod.ext (Int.ofNat_inj.mp (congrArg Prod.fst e)) (Int.ofNat_inj.mp (congrArg Prod.snd e))
  · obtain ⟨p, hp, rfl⟩ := List.mem_map.mp hr
    show (p.1 : Int) < many
    have := (h p hp).1
    omega
theorem fine_loop (L : Line ts es many) {wl : List (Nat × Nat)} (nd : wl.Nodup) (h : ∀ p ∈ wl, p.1 < many ∧ p.2 < many ∧ p.1 ≠ p.2) {x y : Nat} (hx : x < many) (hy : y < many) (k : Nat) : Fine ts es many ((wl.map (wayR es)).take k ++ [loopR es x y] ++ (wl.map (wayR es)).drop k) := by
  have Fi := fine_ways L nd (fun p hp => ⟨(h p hp).1, (h p hp).2.1⟩)
  have perm : ((wl.map (wayR es)).take k ++ [loopR es x y] ++ (wl.map (wayR es)).drop k).Perm (loopR es x y :: wl.map (wayR es)) := by
    have e : wl.map (wayR es) = (wl.map (wayR es)).take k ++ (wl.map (wayR es)).drop k := (List.take_append_drop k _).symm
    conv => rhs; rw [e]
    rw [List.append_assoc]
    exact List.perm_middle
  refine ⟨fun r hr ab => ?_, ?_, fun r hr => ?_⟩
  · rcases List.mem_cons.mp (perm.subset hr) with h | h
    · subst h; exact loop_valid L hx hy ab
    · exact Fi.val r h ab
  · rw [(perm.map _).nodup_iff, List.map_cons, List.nodup_cons]
    refine ⟨fun hm => ?_, Fi.nodup⟩
    obtain ⟨r, hr, e⟩ := List.mem_map.mp hm
    obtain ⟨p, hp, rfl⟩ := List.mem_map.mp hr
    have e : ((p.1 : Int), (p.2 : Int)) = ((x : Int), (x : Int)) := e
    have e1 : (p.1 : Int) = x := congrArg Prod.fst e
    have e2 : (p.2 : Int) = x := congrArg Prod.snd e
    exact (h p hp).2.2 (by omega)
  · rcases List.mem_cons.mp (perm.subset hr) with h | h
    · subst h; show (x : Int) < many; omega
    · exact Fi.lt r h
/-- every needed way is among the rows -/
theorem sum_all {rows : List Row} (Fi : Fine ts es many rows) {zs : List (Nat × Nat)} (h : ∀ p ∈ zs, p.1 ≠ p.2 → wayR es p ∈ rows) : likeSum (rows.map prR) zs = some (1 + (zs.map fun p => wayL es p.1 p.2).sum) :=
  likeSum_all fun p hp hne => lk_rows Fi (h p hp hne)
end
end SW
namespace SW
open PySem PySem.Spec L2 AL
section
variable {P : Program} {w : World} {K : PySem.W.Frag} {mg : Str → Option Value} {base : Heap}
abbrev sBooks : Stmt := top 18
abbrev nBooks : List Str := ["box", "terms", "edges", "one", "other", "many", "ways", "length", "a", "b", "steps", "far", "row", "last", "x", "same_arms", "y", "forth", "back", "loop", "at", "with_loop", "rows", "more", "bad", "k", "book"]
theorem sc_books : FnScope nBooks ["box"] (defScope sBooks) := ⟨rfl, rfl, rfl, by decide +kernel, rfl, by decide +kernel, by decide +kernel⟩
def spBooks : ASp := fun ws G K _ => ∃ (a : Addr) (n : Nat), ws = [.ref a] ∧ BoxAt G a (n + 100) ∧ ∀ G', Upto [a] G G' → BoxAt G' a n → K (.bl true) G'
/-- the ways told so far -/
structure Told (es : List Ed) (zs : List (Nat × Nat)) (i : Nat) (wl : List (Nat × Nat)) : Prop where
  nd : wl.Nodup
  mem : ∀ p ∈ wl, p ∈ zs ∧ p.1 ≠ p.2
  all : ∀ p ∈ zs.take i, p.1 ≠ p.2 → p ∈ wl
  few : wl.length ≤ i
theorem told_same {es : List Ed} {zs : List (Nat × Nat)} {i : Nat} {wl : List (Nat × Nat)} (T : Told es zs i wl) {p : Nat × Nat} (hp : zs[i]? = some p) (h : p.1 = p.2 ∨ p ∈ wl) : Told es zs (i + 1) wl := by
  refine ⟨T.nd, T.mem, fun q hq hne => ?_, Nat.le_succ_of_le T.few⟩
  rw [List.take_succ, hp] at hq
  rcases List.mem_append.mp hq with hq | hq
  · exact T.all q hq hne
  · have : q = p := by simpa using hq
    subst this
    exact h.resolve_left hne
theorem told_new {es : List Ed} {zs : List (Nat × Nat)} {i j : Nat} {wl : List (Nat × Nat)} (T : Told es zs i wl) {p : Nat × Nat} (hp : zs[i]? = some p) (hne : p.1 ≠ p.2) (hn : p ∉ wl) : Told es zs (i + 1) (wl.take j ++ [p] ++ wl.drop j) := by
  have perm : (wl.take j ++ [p] ++ wl.drop j).Perm (p :: wl) := by
    conv => rhs; rw [← List.take_append_drop j wl]
    rw [List.append_assoc]
    exact List.perm_middle
  refine ⟨perm.nodup_iff.mpr (List.nodup_cons.mpr ⟨hn, T.nd⟩), fun q hq => ?_, fun q hq hq2 => perm.symm.subset ?_, by rw [perm.length_eq, List.length_cons]; exact Nat.succ_le_succ T.few⟩
  · rcases List.mem_cons.mp (perm.subset hq) with h | h
    · subst h; exact ⟨List.mem_of_getElem? hp, hne⟩
    · exact T.mem q h
  · rw [List.take_succ, hp] at hq
    rcases List.mem_append.mp hq with hq | hq
    · exact List.mem_cons_of_mem _ (T.all q hq hq2)
    · have : q = p := by simpa using hq
      rw [this]; exact List.mem_cons_self
/-- a list of rows -/
def LoX (l : List Addr) (G : AH) (w : W) (bk : List Row) : Prop := ∃ q ws, w = .ref q ∧ q ∉ l ∧ G q = some (.lst ws) ∧ BkX l G bk ws
theorem LoX.upto {l : List Addr} {G G' : AH} {w : W} {bk : List Row} (h : LoX l G w bk) (u : Upto l G G') : LoX l G' w bk := let ⟨q, ws, h1, h2, h3, h4⟩ := h; ⟨q, ws, h1, h2, u q _ h2 h3, h4.upto u⟩
theorem BoxAt.fresh {G : AH} {a p : Addr} {n : Nat} (h : BoxAt G a n) (hp : G p = none) : p ∉ [a] := by
  obtain ⟨_, h, _⟩ := h
  simpa using (ane_none h hp).symm
theorem add_rows {a : Addr} {n : Nat} {G : AH} {K : W → AH → Prop} {u v : W} {b c : List Row} (hB : BoxAt G a n) (hu : LoX [a] G u b) (hv : LoX [a] G v c) (hl : b.length + c.length ≤ 1000)
    (k : ∀ (w : W) (G' : AH), Upto [] G G' → BoxAt G' a n → LoX [a] G' w (b ++ c) → K w G') : fAdd u v G K := by
  obtain ⟨q, ws, rfl, h2, h3, h4⟩ := hu
  obtain ⟨q', ws', rfl, h2', h3', h4'⟩ := hv
  have l1 := Paired.length h4
  have l2 := Paired.length h4'
  refine ⟨ws, ws', h3, h3', Nat.le_trans (m := 1000) (by omega) (by decide), fun p hp => ?_⟩
  have u : Upto [] G (aup G p (.lst (ws ++ ws'))) := Upto.refl.new hp
  exact k _ _ u (hB.new hp) ⟨p, _, rfl, hB.fresh hp, aup_same, paired_app (h4.upto (u.more (by simp))) (h4'.upto (u.more (by simp)))⟩
theorem lst_rows {a : Addr} {n : Nat} {G : AH} {p : Addr} {ws : List W} {b : List Row} (hB : BoxAt G a n) (hp : G p = none) (h : BkX [a] G b ws) : Upto [] G (aup G p (.lst ws)) ∧ BoxAt (aup G p (.lst ws)) a n ∧ LoX [a] (aup G p (.lst ws)) (.ref p) b :=
  ⟨Upto.refl.new hp, hB.new hp, p, ws, rfl, hB.fresh hp, aup_same, h.upto (Upto.refl.new hp)⟩
theorem cut_rows {a : Addr} {n : Nat} {G : AH} {K : W → AH → Prop} {u : W} {b : List Row} {lo hi : Option Int} (b' : List Row) (hB : BoxAt G a n) (hu : LoX [a] G u b) (hc : ∀ ws, BkX [a] G b ws → BkX [a] G b' (cutW ws lo hi))
    (k : ∀ (w : W) (G' : AH), Upto [] G G' → BoxAt G' a n → LoX [a] G' w b' → K w G') : fSl u lo hi G K := by
  obtain ⟨q, ws, rfl, h2, h3, h4⟩ := hu
  refine ⟨ws, h3, fun p hp => ?_⟩
  obtain ⟨u1, u2, u3⟩ := lst_rows hB hp (hc ws h4)
  exact k _ _ u1 u2 u3
theorem paired_get {α β : Type} {R : α → β → Prop} : ∀ {xs : List α} {ys : List β}, Paired R xs ys → ∀ {i : Nat} {x : α}, xs[i]? = some x → ∃ y, ys[i]? = some y ∧ R x y
  | _, _, .nil, i, x, h => by simp at h
  | _, _, .cons p q, 0, x, h => by cases h; exact ⟨_, rfl, p⟩
  | _, _, .cons p q, i + 1, x, h => paired_get q h
theorem RowX.addN {l : List Addr} {G : AH} {r : Row} {w : W} {p : Addr} (h : RowX l G r w) (hp : G p = none) : RowX (p :: l) G r w := by
  obtain ⟨s, h1, h2, h3⟩ := h
  exact ⟨s, by rw [List.mem_cons, not_or]; exact ⟨ane_none h3 hp, h1⟩, h2, h3⟩
theorem LoX.addN {l : List Addr} {G : AH} {w : W} {bk : List Row} {p : Addr} (h : LoX l G w bk) (hp : G p = none) : LoX (p :: l) G w bk := by
  obtain ⟨q, ws, h1, h2, h3, h4⟩ := h
  exact ⟨q, ws, h1, by rw [List.mem_cons, not_or]; exact ⟨ane_none h3 hp, h2⟩, h3, Paired.mapP h4 fun _ _ z => z.addN hp⟩
theorem LoX.less {l l' : List Addr} {G : AH} {w : W} {bk : List Row} (h : LoX l G w bk) (s : ∀ q ∈ l', q ∈ l) : LoX l' G w bk := by
  obtain ⟨q, ws, h1, h2, h3, h4⟩ := h
  exact ⟨q, ws, h1, fun z => h2 (s q z), h3, h4.less s⟩
theorem BoxAt.sub {G G' : AH} {a : Addr} {n : Nat} (h : BoxAt G a n) (u : Upto [] G G') : BoxAt G' a n := let ⟨B, h1, h2⟩ := h; ⟨B, u a _ (by simp) h1, h2⟩
theorem add_rowsL {l : List Addr} {G : AH} {K : W → AH → Prop} {u v : W} {b c : List Row} (fr : ∀ p, G p = none → p ∉ l) (hu : LoX l G u b) (hv : LoX l G v c) (hl : b.length + c.length ≤ 1000)
    (k : ∀ (w : W) (G' : AH), Upto [] G G' → LoX l G' w (b ++ c) → K w G') : fAdd u v G K := by
  obtain ⟨q, ws, rfl, h2, h3, h4⟩ := hu
  obtain ⟨q', ws', rfl, h2', h3', h4'⟩ := hv
  have l1 := Paired.length h4
  have l2 := Paired.length h4'
  refine ⟨ws, ws', h3, h3', Nat.le_trans (m := 1000) (by omega) (by decide), fun p hp => ?_⟩
  have u : Upto [] G (aup G p (.lst (ws ++ ws'))) := Upto.refl.new hp
  exact k _ _ u ⟨p, _, rfl, fr p hp, aup_same, paired_app (h4.upto (u.more (by simp))) (h4'.upto (u.more (by simp)))⟩
theorem lst_rowsL {l : List Addr} {G : AH} {p : Addr} {ws : List W} {b : List Row} (fr : ∀ p, G p = none → p ∉ l) (hp : G p = none) (h : BkX l G b ws) : Upto [] G (aup G p (.lst ws)) ∧ LoX l (aup G p (.lst ws)) (.ref p) b :=
  ⟨Upto.refl.new hp, p, ws, rfl, fr p hp, aup_same, h.upto (Upto.refl.new hp)⟩
theorem onI_int {i : Int} {k : Int → Prop} (h : k i) : onI (.int i) k := h
theorem last_any {a pl : Addr} {G : AH} {many : Nat} {L : Int} (h : RowX [a] G (lastR many L) (rowW (lastR many L) pl)) (L' : Int) : RowX [a] G (lastR many L') (rowW (lastR many L') pl) := by
  obtain ⟨s, h1, h2, h3⟩ := h
  have : s = pl := by
    unfold rowW at h2
    simp only [W.tup.injEq, List.cons.injEq, W.ref.injEq, and_true, true_and] at h2
    exact h2.symm
  subst this
  exact ⟨s, h1, rfl, h3⟩
/-- a book that does not hold -/
def BadX (a : Addr) (ts : List Tm) (es : List Ed) (many : Nat) (G : AH) (w : W) : Prop := ∃ bk, LoX [a] G w bk ∧ bk.length ≤ 100 ∧ holdsM ts es bk many (many + 1) = false
theorem BadX.upto {a : Addr} {ts : List Tm} {es : List Ed} {many : Nat} {G G' : AH} {w : W} (h : BadX a ts es many G w) (u : Upto [a] G G') : BadX a ts es many G' w := let ⟨bk, h1, h2, h3⟩ := h; ⟨bk, h1.upto u, h2, h3⟩
/-- what the law says of the books -/
structure BM (ts : List Tm) (es : List Ed) (many : Nat) (LEN : Int) (ways rowsL : List Row) (loop : Row) : Prop where
  t1 : holdsM ts es (ways ++ [lastR many LEN]) many (many + 1) = true
  t2 : holdsM ts es (rowsL ++ [lastR many LEN]) many (many + 1) = true
  f3 : ∀ L, L ≠ LEN → holdsM ts es (rowsL ++ [lastR many L]) many (many + 1) = false
  f4 : ∀ k, k < ways.length → holdsM ts es (ways.take k ++ ways.drop (k + 1) ++ [lastR many LEN]) many (many + 1) = false
  f5 : ∀ k r, k < ways.length → holdsM ts es (ways.take k ++ ways.drop (k + 1) ++ [lastR many LEN, r]) many (many + 1) = false
  f6 : holdsM ts es (rowsL ++ [loop, lastR many LEN]) many (many + 1) = false
  f7 : holdsM ts es rowsL many (many + 1) = false
  f8 : holdsM ts es [lastR many LEN] many (many + 1) = false
  f9 : holdsM ts es (rowsL ++ [lastR many LEN, lastR many LEN]) many (many + 1) = false
  pos : 2 ≤ loop.len
  some : 0 < ways.length
theorem hold_f {ts : List Tm} {es : List Ed} {bk : List Row} {x y : Int} (h : rowsM ts es bk [] = false) : holdsM ts es bk x y = false := by
  unfold holdsM; rw [h, Bool.false_and]
theorem exists_ne : ∀ {xs ys : List Nat}, xs.length = ys.length → xs ≠ ys → ∃ p ∈ xs.zip ys, p.1 ≠ p.2
  | [], [], _, h => absurd rfl h
  | x :: xs, y :: ys, hl, h => by
    by_cases e : x = y
    · subst e
      obtain ⟨p, hp, hne⟩ := exists_ne (xs := xs) (ys := ys) (by simpa using hl) (fun z => h (by rw [z]))
      exact ⟨p, List.mem_cons_of_mem _ hp, hne⟩
    · exact ⟨(x, y), List.mem_cons_self, e⟩
  | [], _ :: _, hl, _ => by simp at hl
  | _ :: _, [], hl, _ => by simp at hl
theorem bm {many : Nat} {ts : List Tm} {es : List Ed} {one other : List Nat} (C : CaseOk many ts es one other) {wl : List (Nat × Nat)} (T : Told es (one.zip other) (one.zip other).length wl) {x y : Nat} (hx : x < many) (hy : y < many) (hxy : x ≠ y) (j : Nat) :
    BM ts es many (1 + ((one.zip other).map fun p => wayL es p.1 p.2).sum) (wl.map (wayR es)) ((wl.map (wayR es)).take j ++ [loopR es x y] ++ (wl.map (wayR es)).drop j) (loopR es x y) := by
  have L := C.line
  have zlt : ∀ p ∈ one.zip other, p.1 < many ∧ p.2 < many := fun p hp => ⟨C.lt1 _ (List.of_mem_zip hp).1, C.lt2 _ (List.of_mem_zip hp).2⟩
  have wlt : ∀ p ∈ wl, p.1 < many ∧ p.2 < many ∧ p.1 ≠ p.2 := fun p hp => ⟨(zlt p (T.mem p hp).1).1, (zlt p (T.mem p hp).1).2, (T.mem p hp).2⟩
  have all : ∀ p ∈ one.zip other, p.1 ≠ p.2 → p ∈ wl := fun p hp hne => T.all p (by rw [List.take_length]; exact hp) hne
  have FW := fine_ways L T.nd (fun p hp => ⟨(wlt p hp).1, (wlt p hp).2.1⟩)
  have FL := fine_loop L T.nd wlt hx hy j
  have SW := sum_all FW (zs := one.zip other) fun p hp hne => List.mem_map_of_mem (all p hp hne)
  have inL : ∀ r ∈ wl.map (wayR es), r ∈ (wl.map (wayR es)).take j ++ [loopR es x y] ++ (wl.map (wayR es)).drop j := fun r hr => by
    rw [← List.take_append_drop j (wl.map (wayR es))] at hr
    rcases List.mem_append.mp hr with h | h
    · exact List.mem_append_left _ (List.mem_append_left _ h)
    · exact List.mem_append_right _ h
  have SL := sum_all FL (zs := one.zip other) fun p hp hne => inL _ (List.mem_map_of_mem (all p hp hne))
  obtain ⟨p0, hp0, hne0⟩ := exists_ne (C.leq.symm) C.ne
  have miss : ∀ k, k < (wl.map (wayR es)).length → Fine ts es many ((wl.map (wayR es)).take k ++ (wl.map (wayR es)).drop (k + 1)) ∧ likeSum (((wl.map (wayR es)).take k ++ (wl.map (wayR es)).drop (k + 1)).map prR) (one.zip other) = none := fun k hk => by
    have hk' : k < wl.length := by rwa [List.length_map] at hk
    have sub : ((wl.map (wayR es)).take k ++ (wl.map (wayR es)).drop (k + 1)).Sublist (wl.map (wayR es)) := by
      conv => rhs; rw [← List.take_append_drop k (wl.map (wayR es))]
      refine List.Sublist.append_left ?_ _
      rw [← List.drop_drop]
      exact List.drop_sublist _ _
    refine ⟨FW.sub sub, likeSum_miss (p := wl[k]) (T.mem _ (List.getElem_mem hk')).1 (T.mem _ (List.getElem_mem hk')).2 (lk_no fun r hr e => ?_)⟩
    rw [← List.map_take, ← List.map_drop, ← List.map_append] at hr
    obtain ⟨q, hq, rfl⟩ := List.mem_map.mp hr
    have e : ((q.1 : Int), (q.2 : Int)) = ((wl[k].1 : Int), (wl[k].2 : Int)) := e
    have hq2 : q = wl[k] := Prod.ext (Int.ofNat_inj.mp (congrArg Prod.fst e)) (Int.ofNat_inj.mp (congrArg Prod.snd e))
    have nd := T.nd
    rw [← List.take_append_drop k wl, List.drop_eq_getElem_cons hk'] at nd
    have nd2 := (List.perm_middle.nodup_iff.mp nd)
    rw [List.nodup_cons] at nd2
    exact nd2.1 (hq2 ▸ hq)
  have hwl : 0 < (wl.map (wayR es)).length := by
    rw [List.length_map]
    exact List.length_pos_of_mem (all p0 hp0 hne0)
  have F0 : Fine ts es many [] := FW.sub (List.nil_sublist _)
  refine ⟨?_, ?_, fun L' hL => ?_, fun k hk => ?_, fun k r hk => ?_, ?_, ?_, ?_, ?_, ?_, hwl⟩
  · rw [holds_last C FW, SW]; simp
  · rw [holds_last C FL, SL]; simp
  · rw [holds_last C FL, SL]
    exact decide_eq_false fun e => hL (Option.some.inj e).symm
  · rw [holds_last C (miss k hk).1, (miss k hk).2]; simp
  · exact hold_f (rows_miss C (miss k hk).1 (miss k hk).2 [r])
  · exact hold_f (rows_twice FL (by simp) _)
  · exact holds_nolast FL
  · have : likeSum (([] : List Row).map prR) (one.zip other) = none := likeSum_miss hp0 hne0 rfl
    have h := holds_last C F0 (1 + ((one.zip other).map fun p => wayL es p.1 p.2).sum)
    rw [this] at h
    rw [List.nil_append] at h
    rw [h]; simp
  · exact hold_f (rows_last2 FL _)
  · have h1 := way_pos L hx hy
    have h2 := way_pos L hy hx
    have n1 : 1 ≤ wn x y := by rcases wd_cases x y with ⟨h, _, e⟩ | ⟨h, _, e⟩ <;> rw [e] <;> omega
    have n2 : 1 ≤ wn y x := by rcases wd_cases y x with ⟨h, _, e⟩ | ⟨h, _, e⟩ <;> rw [e] <;> omega
    show 2 ≤ wayL es x y + wayL es y x
    omega
theorem ok_books {f : Addr} {fd : FuncData} (F : Fun K "_law_books_right" "_law_books_right" sBooks f fd) (B : Bl mg) (CT : Cal P w K mg base "_law_take" 1 ["box", "many"] spTake) (CC : Cal P w K mg base "_law_case" 2 ["box"] spCase)
    (CW : Cal P w K mg base "_law_way" 1 ["edges", "a", "b"] spWay) (CH : Cal P w K mg base "holds" 4 ["terms", "edges", "book", "a", "b"] spHd) : FnOk P w K mg base CX0 5 f fd ["box"] (low ⟨P, w, K⟩ spBooks) := by
  refine fnA_of F sc_books (fun ws G Kc KE ⟨a, n, e, _⟩ => by rw [e]; rfl) fun cdv A outer s H E ws G Kc KE hr ⟨a, n, e, hB, kk⟩ => ?_
  subst e
  have hr1 : Room 1 _ := hr.mono (by decide)
  have hr2 : Room 2 _ := hr.mono (by decide)
  refine s_cons (s_asg (q_cal CC hr2 (a_cons (qv 0 rfl (a_nil ⟨a, n + 60, rfl, hB, fun t e o r many ts es one other G1 up1 hB1 hta hea hoa hra hT1 hE1 hO1 hR1 C => ?_⟩)))))
  refine g_tup rfl (gs_cons (g_name (i := 1) sc_books.nd (gs_cons (g_name (i := 2) sc_books.nd (gs_cons (g_name (i := 3) sc_books.nd (gs_cons (g_name (i := 4) sc_books.nd (gs_nil ?_)))))))))
  have tl := C.tlen
  have m2 := C.m2
  have m4 := C.m4
  have l2 := C.l2
  have l4 := C.l4
  have leq := C.leq
  have hes := C.hes
  -- many, ways, length
  refine s_cons (s_asg (q_tup (a_cons (q_sub (q_len B.len (a_cons (qv 1 rfl (a_nil ⟨_, hT1, ?_⟩))))))))
  refine q_int (a_cons (q_lst (a_nil fun Wa hW => ?_)))
  refine a_nil (g_tup rfl (gs_cons (g_name (i := 5) sc_books.nd (gs_cons (g_name (i := 6) sc_books.nd (gs_nil ?_))))))
  refine s_cons (s_set (i := 7) sc_books.nd (q_int ?_))
  have hWa : Wa ≠ a := by obtain ⟨_, h, _⟩ := hB1; exact (ane_none h hW).symm
  have hWt : t ≠ Wa := ane_none hT1 hW
  have hWe : e ≠ Wa := ane_none hE1 hW
  have hWo : o ≠ Wa := ane_none hO1 hW
  have hWr : r ≠ Wa := ane_none hR1 hW
  have hW00 : G Wa = none := up1.free hW (by simpa using hWa)
  have em : (fun i j : Int => i - j) ((tW ts).length : Int) 2 = (many : Int) := by rw [tW_length, tl]; show ((many + 2 : Nat) : Int) - 2 = many; omega
  refine SQ.st [some (.ref a), some (.ref t), some (.ref e), some (.ref o), some (.ref r), some (.int many), some (.ref Wa), some (.int 1), none, none, none, none, none, none, none, none, none, none, none, none, none, none, none, none, none, none, none] (by rw [← em]; rfl) ?_
  have hT2 := aup_new (u := .lst []) hW hT1
  have hE2 := aup_new (u := .lst []) hW hE1
  have hO2 := aup_new (u := .lst []) hW hO1
  have hR2 := aup_new (u := .lst []) hW hR1
  have hB2 := hB1.new (o := .lst []) hW
  have hW2 : (aup G1 Wa (.lst [])) Wa = some (.lst []) := aup_same
  have up2 := up1.new (o := .lst []) hW
  generalize aup G1 Wa (.lst []) = G2 at hT2 hE2 hO2 hR2 hB2 hW2 up2 ⊢
  clear hT1 hE1 hO1 hR1 hB1 up1 hW em
  have zl : (one.zip other).length = one.length := by rw [List.length_zip]; omega
  have zlt : ∀ p ∈ one.zip other, p.1 < many ∧ p.2 < many := fun p hp => ⟨C.lt1 _ (List.of_mem_zip hp).1, C.lt2 _ (List.of_mem_zip hp).2⟩
  -- the ways
  refine s_cons (s_for PassesOwn.never rfl (i_zip rfl B.zip (qv 3 rfl (qv 4 rfl ⟨o, r, _, _, rfl, rfl, hO2, hR2, ?_⟩))))
  refine ⟨fun i ρ' G' => ∃ (wl : List (Nat × Nat)) (ws : List W) (v8 v9 v10 v11 v12 : Option W), ρ' = [some (.ref a), some (.ref t), some (.ref e), some (.ref o), some (.ref r), some (.int many), some (.ref Wa), some (.int (1 + (((one.zip other).take i).map fun p => wayL es p.1 p.2).sum)), v8, v9, v10, v11, v12, none, none, none, none, none, none, none, none, none, none, none, none, none, none] ∧
    Told es (one.zip other) i wl ∧ G' Wa = some (.lst ws) ∧ BkX [a, Wa] G' (wl.map (wayR es)) ws ∧ BoxAt G' a (n + 60 - i) ∧ Upto [a, Wa] G2 G', ⟨[], [], none, none, none, none, none, rfl, ⟨List.nodup_nil, fun p h => (by cases h), fun p h => (by cases h), Nat.le_refl _⟩, hW2, .nil, hB2, Upto.refl⟩, fun i ρ' G' _ ⟨_, _, _, _, _, _, _, _, _, _, _, _, u⟩ => ⟨u o _ (by simp [hoa, hWo]) hO2, u r _ (by simp [hra, hWr]) hR2⟩, fun i z ρ' G' hz ⟨wl, ws, v8, v9, v10, v11, v12, e1, TT, hWs, hBk, hBx, up⟩ => ?_, fun ρ' G' ⟨wl, ws, v8, v9, v10, v11, v12, e1, TT, hWs, hBk, hBx, up⟩ => ?_⟩
  · obtain ⟨x, y, hxy, rfl⟩ := zi_item hz
    subst e1
    have hi4 : i < 4 := by have := (List.getElem?_eq_some_iff.mp hxy).1; omega
    obtain ⟨hx, hy⟩ := zlt (x, y) (List.mem_of_getElem? hxy)
    have hx : x < many := hx
    have hy : y < many := hy
    have hE' : G' e = some (.lst (eW es)) := up e _ (by simp [hea, hWe]) hE2
    have bkl : wl.length = ws.length := by have := Paired.length hBk; rwa [List.length_map] at this
    have few := TT.few
    refine g_tup rfl (gs_cons (g_name (i := 8) sc_books.nd (gs_cons (g_name (i := 9) sc_books.nd (gs_nil ?_)))))
    refine s_cons (s_asg (q_cal CW hr1 (a_cons (qv 2 rfl (a_cons (qv 8 rfl (a_cons (qv 9 rfl (a_nil ⟨e, es, x, y, rfl, hE', by omega, by omega, by omega, fun p hp => ?_⟩)))))))))
    refine g_tup rfl (gs_cons (g_name (i := 10) sc_books.nd (gs_cons (g_name (i := 11) sc_books.nd (gs_nil ?_)))))
    refine s_cons (s_set (i := 7) sc_books.nd (q_add (qv 7 rfl (qv 11 rfl ?_))))
    refine s_cons (s_set (i := 12) sc_books.nd (q_tup (a_cons (qv 8 rfl (a_cons (qv 9 rfl (a_cons (qv 11 rfl (a_cons (qv 10 rfl (a_nil ?_)))))))))))
    have sums : (1 + (((one.zip other).take i).map fun p => wayL es p.1 p.2).sum) + wayL es x y = 1 + (((one.zip other).take (i + 1)).map fun p => wayL es p.1 p.2).sum := by
      rw [List.take_succ, hxy, List.map_append, List.sum_append]
      show _ = 1 + (_ + (wayL es x y + 0))
      omega
    refine SQ.st [some (.ref a), some (.ref t), some (.ref e), some (.ref o), some (.ref r), some (.int many), some (.ref Wa), some (.int (1 + (((one.zip other).take (i + 1)).map fun p => wayL es p.1 p.2).sum)), some (.int x), some (.int y), some (.ref p), some (.int (wayL es x y)), some (rowW (wayR es (x, y)) p), none, none, none, none, none, none, none, none, none, none, none, none, none, none] (by rw [← sums]; rfl) ?_
    have hpa : p ≠ a := by obtain ⟨_, h, _⟩ := hBx; exact (ane_none h hp).symm
    have hpW : p ≠ Wa := (ane_none hWs hp).symm
    have hW3 := aup_new (u := .lst ((wayS x y).map Sp.W)) hp hWs
    have hBk3 := hBk.upto (Upto.refl.new (o := .lst ((wayS x y).map Sp.W)) hp)
    have hBx3 := hBx.new (o := .lst ((wayS x y).map Sp.W)) hp
    have up3 := up.new (o := .lst ((wayS x y).map Sp.W)) hp
    have hRow : RowX [a, Wa] (aup G' p (.lst ((wayS x y).map Sp.W))) (wayR es (x, y)) (rowW (wayR es (x, y)) p) := ⟨p, by simp [hpa, hpW], rfl, aup_same⟩
    generalize aup G' p (.lst ((wayS x y).map Sp.W)) = G3 at hW3 hBk3 hBx3 up3 hRow ⊢
    refine s_cons (s_if (WQ.test (w_and (b_ne (u64 hr) (qv 8 rfl (qv 9 rfl ?_))))))
    refine ifB_ndec (fun hne => ?_) (fun heq => ?_)
    · have hne : x ≠ y := fun z => hne (by rw [z])
      refine w_and1 (b_nin (u65 hr) (qv 12 rfl (qv 6 rfl ⟨_, _, rowD_DW hRow, .lst hW3 (rowsD_DW hBk3), rowD_shaped _, rowsD_shaped _, ?_⟩)))
      rw [way_in]
      refine ifB_ndec (fun hn => ?_) (fun hin => ?_)
      · refine s_cons (s_expr (q_insert PySem.F.slot_list_insert PySem.F.type_list_insert (qv 6 rfl ⟨Wa, ws, rfl, hW3, ?_⟩)))
        refine a_cons (q_cal CT hr1 (a_cons (qv 0 rfl (a_cons (q_add (q_len B.len (a_cons (qv 6 rfl (a_nil ⟨_, hW3, ?_⟩)))))))))
        refine q_int (a_nil ⟨a, n + 59 - i, _, rfl, hBx3.less (by omega), by omega, by omega, fun rr G4 r0 r1 off hB4 => ?_⟩)
        have u4 : Upto [a, Wa] G3 G4 := (Upto.off off).more (by simp)
        have hW4 : G4 Wa = some (.lst ws) := (Upto.off off).at1 hW3 hWa
        have hRow4 := hRow.upto u4
        have hBk4 := hBk3.upto u4
        refine a_cons (qv 12 rfl (a_nil ⟨ws, hW4, ?_, r0, by omega, ?_⟩))
        · exact Nat.lt_of_le_of_lt (show ws.length ≤ 4 by omega) (by decide)
        have u5 : Upto [a, Wa] G4 (aup G4 Wa (.lst (ws.take rr.toNat ++ [rowW (wayR es (x, y)) p] ++ ws.drop rr.toNat))) := Upto.refl.put (by simp)
        refine s_nil (s_nil ⟨wl.take rr.toNat ++ [(x, y)] ++ wl.drop rr.toNat, _, _, _, _, _, _, rfl, told_new TT hxy hne hn, aup_same, ?_, (hB4.old hWa.symm).less (by omega), (up3.trans u4).trans u5⟩)
        rw [List.map_append, List.map_append, List.map_take, List.map_drop]
        have q := hBk4.upto u5
        exact paired_app (paired_app (paired_take q _) (.cons (hRow4.upto u5) .nil)) (paired_drop q _)
      · refine s_nil (s_nil ⟨wl, ws, _, _, _, _, _, rfl, told_same TT hxy (.inr hin), hW3, hBk3, hBx3.less (by omega), up3⟩)
    · have heq : x = y := by omega
      refine ifF (s_nil (s_nil ⟨wl, ws, _, _, _, _, _, rfl, told_same TT hxy (.inl heq), hW3, hBk3, hBx3.less (by omega), up3⟩))
  · have hlz : (ziW (nW one) (nW other)).length = (one.zip other).length := by rw [ziW_length, nW_length, nW_length, List.length_zip]
    rw [hlz] at e1 TT hBx
    rw [List.take_length] at e1
    subst e1
    generalize hLEN : 1 + ((one.zip other).map fun p => wayL es p.1 p.2).sum = LEN
    have hB3 : BoxAt G' a (n + 50) := hBx.less (by omega)
    have look : ∀ q o, G2 q = some o → q ≠ a → q ≠ Wa → G' q = some o := fun q o h1 h2 h3 => up q o (by simp [h2, h3]) h1
    have hT3 := look _ _ hT2 hta hWt
    have hE3 := look _ _ hE2 hea hWe
    have hO3 := look _ _ hO2 hoa hWo
    have hR3 := look _ _ hR2 hra hWr
    have up3 : Upto [a] G G' := fun q o n e => by
      have nW : q ≠ Wa := ane_none e hW00
      have na : q ≠ a := by simpa using n
      exact look q o (up2 q o n e) na nW
    have hWays : LoX [a] G' (.ref Wa) (wl.map (wayR es)) := ⟨Wa, ws, rfl, by simpa using hWa, hWs, hBk.less (by simp)⟩
    have wfew : wl.length ≤ 4 := by have := TT.few; omega
    clear look up hBx hB2 hT2 hE2 hO2 hR2 up2 hWs hBk hW2
    -- last
    refine s_cons (s_set (i := 13) sc_books.nd (q_tup (a_cons (qv 5 rfl (a_cons (q_add (qv 5 rfl (q_int ?_))))))))
    refine a_cons (qv 7 rfl (a_cons (q_lst (a_cons (q_tup (a_cons (q_str (a_cons (qv 5 rfl (a_cons (q_add (qv 5 rfl (q_int ?_)))))))))))))
    refine a_nil (a_nil fun pl hpl => a_nil ?_)
    have hLast : RowX [a] (aup G' pl (.lst [.tup [.str "like", .int many, .int ((many : Int) + 1)]])) (lastR many LEN) (rowW (lastR many LEN) pl) := ⟨pl, hB3.fresh hpl, rfl, aup_same⟩
    have uA : Upto [a] G' (aup G' pl (.lst [.tup [.str "like", .int many, .int ((many : Int) + 1)]])) := Upto.refl.new hpl
    have hB4 := hB3.new (o := .lst [.tup [.str "like", .int many, .int ((many : Int) + 1)]]) hpl
    refine SQ.st [some (.ref a), some (.ref t), some (.ref e), some (.ref o), some (.ref r), some (.int many), some (.ref Wa), some (.int LEN), v8, v9, v10, v11, v12, some (rowW (lastR many LEN) pl), none, none, none, none, none, none, none, none, none, none, none, none, none] rfl ?_
    show SQ _ _ _ (aup G' pl (.lst [.tup [.str "like", .int many, .int ((many : Int) + 1)]])) _
    generalize aup G' pl (.lst [.tup [.str "like", .int many, .int ((many : Int) + 1)]]) = G3 at hLast uA hB4 ⊢
    -- x
    refine s_cons (s_set (i := 14) sc_books.nd (q_cal CT hr1 (a_cons (qv 0 rfl (a_cons (qv 5 rfl (a_nil ⟨a, n + 49, many, rfl, hB4, by omega, by omega, fun x0 G4 r0 r1 off hB5 => ?_⟩)))))))
    obtain ⟨x0, rfl⟩ : ∃ x : Nat, x0 = x := ⟨x0.toNat, by omega⟩
    have hx0 : x0 < many := by omega
    have uB : Upto [a] G3 G4 := .off off
    have uC := uA.trans uB
    have hO4 := uC.at1 hO3 hoa
    have hR4 := uC.at1 hR3 hra
    -- same_arms
    refine s_cons (s_setLc (i := 15) sc_books.nd (blkOk_by (N := nBooks) (sc := defScope sBooks) (own := [("a", 8), ("b", 9)]) (by decide +kernel)) (i_zip rfl B.zip (qv 3 rfl (qv 4 rfl ⟨o, r, _, _, rfl, rfl, hO4, hR4, ⟨fun S hS => ?_⟩⟩))))
    refine ⟨fun i G5 => G5 = aup G4 S (.lst (nW ((((one.zip other).take i).filter fun p => decide (p.1 = p.2)).map (·.1)))), rfl, fun i G5 _ e => by subst e; exact ⟨aup_new hS hO4, aup_new hS hR4⟩, fun i z G5 hz e => ?_, fun G5 e => ?_⟩
    · obtain ⟨x, y, hxy, rfl⟩ := zi_item hz
      subst e
      have stp : (((one.zip other).take (i + 1)).filter fun p => decide (p.1 = p.2)).map (·.1) = (((one.zip other).take i).filter fun p => decide (p.1 = p.2)).map (·.1) ++ (if x = y then [x] else []) := by
        rw [List.take_succ, hxy, List.filter_append, List.map_append]
        show _ ++ (List.filter (fun p => decide (p.1 = p.2)) [(x, y)]).map (·.1) = _
        by_cases h : x = y <;> simp [h]
      have sml : ((((one.zip other).take i).filter fun p => decide (p.1 = p.2)).map (·.1)).length ≤ 4 := by
        rw [List.length_map]
        refine Nat.le_trans (List.length_filter_le _ _) ?_
        rw [List.length_take]; omega
      intro s0 H0 Cc cl fp
      refine n_tup rfl (ns_cons (n_name (i := 8) sc_books.nd (ns_cons (n_name (i := 9) sc_books.nd (ns_nil ?_)))))
      intro s0 H0 Cc cl fp
      refine ts_one (b_eq (u64 hr) (qv 8 rfl (qv 9 rfl ?_)))
      refine ifB_dec (fun h => ?_) (fun h => ?_)
      · intro s0 H0 Cc cl fp
        have h' : x = y := by omega
        refine qv 8 rfl ⟨_, aup_same, ?_, ?_⟩
        · rw [nW_length]; exact Nat.lt_of_le_of_lt sml (by decide)
        · rw [aup_aup]
          show aup G4 S _ = aup G4 S (.lst (nW ((((one.zip other).take (i + 1)).filter fun p => decide (p.1 = p.2)).map (·.1))))
          rw [stp, if_pos h']
          unfold nW
          rw [List.map_append]; rfl
      · have h' : ¬ x = y := by omega
        show aup G4 S _ = aup G4 S (.lst (nW ((((one.zip other).take (i + 1)).filter fun p => decide (p.1 = p.2)).map (·.1))))
        rw [stp, if_neg h', List.append_nil]
    rw [hlz, List.take_length] at e
    have uD : Upto [a] G4 G5 := by subst e; exact Upto.refl.new hS
    have hS5 : G5 S = some (.lst (nW (((one.zip other).filter fun p => decide (p.1 = p.2)).map (·.1)))) := by subst e; exact aup_same
    have hB6 : BoxAt G5 a (n + 49) := by subst e; exact hB5.new hS
    have hSa : S ≠ a := by simpa using hB5.fresh hS
    have sOne : ∀ x ∈ ((one.zip other).filter fun p => decide (p.1 = p.2)).map (·.1), x ∈ one := fun x hx => by
      obtain ⟨p, hp, rfl⟩ := List.mem_map.mp hx
      exact (List.of_mem_zip (List.mem_filter.mp hp).1).1
    have sl4 : (((one.zip other).filter fun p => decide (p.1 = p.2)).map (·.1)).length ≤ 4 := by
      rw [List.length_map]
      exact Nat.le_trans (List.length_filter_le _ _) (by omega)
    generalize ((one.zip other).filter fun p => decide (p.1 = p.2)).map (·.1) = same at hS5 sOne sl4
    have uE := uC.trans uD
    have hLast5 := hLast.upto (uB.trans uD)
    clear e hS uB uD hO4 hR4 hB5 uC hB4
    have hT5 := uE.at1 hT3 hta
    have hE5 := uE.at1 hE3 hea
    have hO5 := uE.at1 hO3 hoa
    have hWays5 := hWays.upto uE
    have up5 := up3.trans uE
    clear uE hT3 hE3 hO3 hR3 hWays hLast uA up3 hB3
    -- x again
    refine s_cons (s_cut (P := fun ρ' G' => ∃ x : Nat, x < many ∧ ρ' = [some (.ref a), some (.ref t), some (.ref e), some (.ref o), some (.ref r), some (.int many), some (.ref Wa), some (.int LEN), v8, v9, v10, v11, v12, some (rowW (lastR many LEN) pl), some (.int x), some (.ref S), none, none, none, none, none, none, none, none, none, none, none] ∧ BoxAt G' a (n + 48) ∧ Upto [a] G5 G') ?_ ?_)
    · refine s_if (b_ne (u64 hr) (qv 15 rfl (q_lst (a_nil fun p hp => ?_))))
      rw [nW_ints] at hS5
      refine fEq_ints (ms := []) (aup_new hp hS5) aup_same ?_
      refine ifB_ndec (fun h => ?_) (fun h => ?_)
      · have hpos : 0 < same.length := by
          cases same with
          | nil => exact absurd rfl h
          | cons _ _ => simp
        refine s_cons (s_set (i := 14) sc_books.nd (q_ix (qv 15 rfl (q_cal CT hr1 (a_cons (qv 0 rfl (a_cons (q_len B.len (a_cons (qv 15 rfl (a_nil ⟨_, aup_new hp hS5, ?_⟩)))))))))))
        rw [List.length_map, List.length_map]
        refine a_nil ⟨a, n + 48, same.length, rfl, hB6.new hp, by omega, by omega, fun j G6 r0 r1 off hB7 => ?_⟩
        obtain ⟨j, rfl⟩ : ∃ x : Nat, j = x := ⟨j.toNat, by omega⟩
        have hj : j < same.length := by omega
        have uu : Upto [a] G5 G6 := (Upto.refl.new hp).trans (.off off)
        refine ⟨_, _, uu.at1 hS5 hSa, by rw [← nW_ints]; exact nW_at hj, ?_⟩
        exact s_nil ⟨same.getD j 0, getD_lt (fun x hx => C.lt1 x (sOne x hx)) hj, rfl, hB7, uu⟩
      · exact s_nil ⟨x0, hx0, rfl, (hB6.new hp).less (by omega), Upto.refl.new hp⟩
    rintro _ G6 ⟨x, hx, rfl, hB7, u6⟩
    -- y
    refine s_cons (s_cut (P := fun ρ' G' => ∃ y : Nat, y < many ∧ x ≠ y ∧ ρ' = [some (.ref a), some (.ref t), some (.ref e), some (.ref o), some (.ref r), some (.int many), some (.ref Wa), some (.int LEN), v8, v9, v10, v11, v12, some (rowW (lastR many LEN) pl), some (.int x), some (.ref S), some (.int y), none, none, none, none, none, none, none, none, none, none] ∧ BoxAt G' a (n + 47) ∧ Upto [a] G5 G') ?_ ?_)
    · refine s_set (i := 16) sc_books.nd (q_if (WQ.test (w_or (b_eq (u64 hr) (qv 14 rfl (q_int ?_))))))
      refine ifB_dec (fun h => ?_) (fun h => ?_)
      · refine ifT (q_add (qv 14 rfl (q_int ⟨x + 1, by omega, by omega, rfl, hB7.less (by omega), u6⟩)))
      · refine w_or1 (WQ.test (w_and (b_lt (q_add (qv 14 rfl (q_int (qv 5 rfl ?_)))))))
        refine ifB_dec (fun h2 => ?_) (fun h2 => ?_)
        · have h2 : (x : Int) + 1 < many := h2
          refine w_and1 (b_eq (u64 hr) (q_cal CT hr1 (a_cons (qv 0 rfl (a_cons (q_int (a_nil ⟨a, n + 47, 2, rfl, hB7, by decide, by decide, fun j G7 r0 r1 off hB8 => ?_⟩)))))))
          have uu := u6.trans (.off off)
          refine q_int ?_
          refine ifB_dec (fun h3 => ?_) (fun h3 => ?_)
          · exact q_add (qv 14 rfl (q_int ⟨x + 1, by omega, by omega, rfl, hB8, uu⟩))
          · refine q_sub (qv 14 rfl (q_int ⟨x - 1, by omega, by omega, ?_, hB8, uu⟩))
            rw [show ((x - 1 : Nat) : Int) = (x : Int) - 1 by omega]; rfl
        · refine ifF (q_sub (qv 14 rfl (q_int ⟨x - 1, by omega, by omega, ?_, hB7.less (by omega), u6⟩)))
          rw [show ((x - 1 : Nat) : Int) = (x : Int) - 1 by omega]; rfl
    rintro _ G7 ⟨y, hy, hxy, rfl, hB8, u7⟩
    have hE7 := u7.at1 hE5 hea
    -- forth, back, loop
    refine s_cons (s_par (i := 17) (j := 18) sc_books.nd (q_cal CW hr1 (a_cons (qv 2 rfl (a_cons (qv 14 rfl (a_cons (qv 16 rfl (a_nil ⟨e, es, x, y, rfl, hE7, by omega, by omega, by omega, fun p1 hp1 => ?_⟩)))))))))
    refine q_cal CW hr1 (a_cons (qv 2 rfl (a_cons (qv 16 rfl (a_cons (qv 14 rfl (a_nil ⟨e, es, y, x, rfl, aup_new hp1 hE7, by omega, by omega, by omega, fun p2 hp2 => ?_⟩)))))))
    refine s_cons (s_set (i := 19) sc_books.nd (q_tup (a_cons (qv 14 rfl (a_cons (qv 14 rfl (a_cons (q_add (q_ix (qv 17 rfl (q_int ?_)))))))))))
    refine q_ix (qv 18 rfl (q_int ?_))
    refine a_cons (q_add (q_ix (qv 17 rfl (q_int ?_))))
    refine q_ix (qv 18 rfl (q_int ?_))
    refine ⟨_, _, aup_new hp2 aup_same, aup_same, ?_, fun p3 hp3 => a_nil ?_⟩
    · rw [List.length_map, List.length_map, wayS_len, wayS_len]
      refine Nat.le_trans (m := 100) ?_ (by decide)
      rcases wd_cases x y with ⟨_, _, q⟩ | ⟨_, _, q⟩ <;> rcases wd_cases y x with ⟨_, _, q'⟩ | ⟨_, _, q'⟩ <;> rw [q, q'] <;> omega
    rw [← List.map_append]
    have hLoop : RowX [a] (aup (aup (aup G7 p1 (.lst ((wayS x y).map Sp.W))) p2 (.lst ((wayS y x).map Sp.W))) p3 (.lst ((wayS x y ++ wayS y x).map Sp.W))) (loopR es x y) (rowW (loopR es x y) p3) := ⟨p3, ((hB8.new hp1).new hp2).fresh hp3, rfl, aup_same⟩
    have u8 := ((u7.new (o := .lst ((wayS x y).map Sp.W)) hp1).new (o := .lst ((wayS y x).map Sp.W)) hp2).new (o := .lst ((wayS x y ++ wayS y x).map Sp.W)) hp3
    have hB9 := ((hB8.new (o := .lst ((wayS x y).map Sp.W)) hp1).new (o := .lst ((wayS y x).map Sp.W)) hp2).new (o := .lst ((wayS x y ++ wayS y x).map Sp.W)) hp3
    refine SQ.st [some (.ref a), some (.ref t), some (.ref e), some (.ref o), some (.ref r), some (.int many), some (.ref Wa), some (.int LEN), v8, v9, v10, v11, v12, some (rowW (lastR many LEN) pl), some (.int x), some (.ref S), some (.int y), some (.tup [.ref p1, .int (wayL es x y)]), some (.tup [.ref p2, .int (wayL es y x)]), some (rowW (loopR es x y) p3), none, none, none, none, none, none, none] rfl ?_
    generalize aup (aup (aup G7 p1 (.lst ((wayS x y).map Sp.W))) p2 (.lst ((wayS y x).map Sp.W))) p3 (.lst ((wayS x y ++ wayS y x).map Sp.W)) = G8 at hLoop u8 hB9 ⊢
    clear hp1 hp2 hp3 u7 hB8 hE7 u6 hB7
    -- at, with_loop
    have hWays8 := hWays5.upto u8
    obtain ⟨_, ws8, ew, _, hW8, hBk8⟩ := id hWays8
    cases ew
    have wl8 := Paired.length hBk8
    rw [List.length_map] at wl8
    refine s_cons (s_set (i := 20) sc_books.nd (q_cal CT hr1 (a_cons (qv 0 rfl (a_cons (q_add (q_len B.len (a_cons (qv 6 rfl (a_nil ⟨_, hW8, ?_⟩))))))))))
    refine q_int (a_nil ⟨a, n + 46, _, rfl, hB9, by omega, by omega, fun j G9 j0 j1 off hB10 => ?_⟩)
    obtain ⟨j, rfl⟩ : ∃ k : Nat, j = k := ⟨j.toNat, by omega⟩
    have u9' : Upto [a] G8 G9 := .off off
    have hWays9 := hWays8.upto u9'
    have hLoop9 := hLoop.upto u9'
    refine s_cons (s_set (i := 21) sc_books.nd (q_add (q_add (q_sl (qv 6 rfl (o_non (o_some (qv 20 rfl ?_))))))))
    refine onI_int (cut_rows ((wl.map (wayR es)).take j) hB10 hWays9 (fun ws h => by rw [cutW_to]; exact paired_take h j) fun w1 G10 u10 hB11 hL1 => ?_)
    refine q_lst (a_cons (qv 19 rfl (a_nil fun p4 hp4 => ?_)))
    obtain ⟨u11, hB12, hL2⟩ := lst_rows hB11 hp4 (.cons (hLoop9.upto (u10.more (by simp))) .nil)
    refine add_rows hB12 (hL1.upto (u11.more (by simp))) hL2 (by rw [List.length_take, List.length_map, List.length_singleton]; omega) fun w3 G12 u12 hB13 hL3 => ?_
    refine q_sl (qv 6 rfl (o_some (qv 20 rfl (o_non ?_))))
    have u13 := (u10.trans u11).trans u12
    refine cut_rows ((wl.map (wayR es)).drop j) hB13 (hWays9.upto (u13.more (by simp))) (fun ws h => by rw [cutW_from]; exact paired_drop h j) fun w4 G13 u14 hB14 hL4 => ?_
    refine add_rows hB14 (hL3.upto (u14.more (by simp))) hL4 (by rw [List.length_append, List.length_take, List.length_drop, List.length_map, List.length_singleton]; omega) fun wL G14 u15 hB15 hRows => ?_
    have hRlen : ((wl.map (wayR es)).take j ++ [loopR es x y] ++ (wl.map (wayR es)).drop j).length ≤ 10 := by
      rw [List.length_append, List.length_append, List.length_take, List.length_drop, List.length_map, List.length_singleton]; omega
    have M := bm C TT hx hy hxy j
    rw [hLEN] at M
    have hwlen : (wl.map (wayR es)).length ≤ 4 := by rw [List.length_map]; exact wfew
    have uu : Upto [a] G5 G14 := (u8.trans u9').trans (((u13.trans u14).trans u15).more (by simp))
    have hT := uu.at1 hT5 hta
    have hE := uu.at1 hE5 hea
    have hO := uu.at1 hO5 hoa
    have hS := uu.at1 hS5 hSa
    have hWays := hWays5.upto uu
    have hLast := hLast5.upto uu
    have hLoop := hLoop9.upto (((u13.trans u14).trans u15).more (by simp))
    have upG := up5.trans uu
    refine SQ.st [some (.ref a), some (.ref t), some (.ref e), some (.ref o), some (.ref r), some (.int many), some (.ref Wa), some (.int LEN), v8, v9, v10, v11, v12, some (rowW (lastR many LEN) pl), some (.int x), some (.ref S), some (.int y), some (.tup [.ref p1, .int (wayL es x y)]), some (.tup [.ref p2, .int (wayL es y x)]), some (rowW (loopR es x y) p3), some (.int j), some wL, none, none, none, none, none] rfl ?_
    generalize (wl.map (wayR es)).take j ++ [loopR es x y] ++ (wl.map (wayR es)).drop j = rowsL at hRows hRlen M
    generalize wl.map (wayR es) = ways at hWays M hwlen
    have Tok := C.tsok
    have Eok := C.esok
    have hB16 := hB15.less (show n + 40 ≤ n + 46 by omega)
    clear uu u15 u14 u13 u12 u11 u10 u9' u8 hL1 hL2 hL3 hL4 hB15 hB14 hB13 hB12 hB11 hB10 hB9 hW8 hBk8 hWays8 hWays9 hLoop9 off hT5 hE5 hO5 hS5 hWays5 hLast5 hB6 up5 hp4 wl8
    have hr4 : Room 4 _ := hr
    -- both books hold
    refine s_cons (s_for PassesOwn.never rfl (i_tup (q_tup (a_cons (qv 6 rfl (a_cons (qv 21 rfl (a_nil ?_))))))))
    have key : ∀ (i : Nat) (x : W), ([.ref Wa, wL] : List W)[i]? = some x → ∃ bk, LoX [a] G14 x bk ∧ bk.length ≤ 10 ∧ holdsM ts es (bk ++ [lastR many LEN]) many (many + 1) = true := fun i x h => by
      match i, h with
      | 0, h => cases h; exact ⟨ways, hWays, by omega, M.t1⟩
      | 1, h => cases h; exact ⟨rowsL, hRows, hRlen, M.t2⟩
    refine ⟨fun i ρ' G' => ∃ v22, ρ' = [some (.ref a), some (.ref t), some (.ref e), some (.ref o), some (.ref r), some (.int many), some (.ref Wa), some (.int LEN), v8, v9, v10, v11, v12, some (rowW (lastR many LEN) pl), some (.int x), some (.ref S), some (.int y), some (.tup [.ref p1, .int (wayL es x y)]), some (.tup [.ref p2, .int (wayL es y x)]), some (rowW (loopR es x y) p3), some (.int j), some wL, v22, none, none, none, none] ∧ Upto [] G14 G' ∧ BoxAt G' a (n + 40), ⟨none, rfl, Upto.refl, hB16⟩, fun _ _ _ _ _ => trivial, fun i z ρ' G' hz ⟨v22, e1, u, hBx⟩ => ?_, fun ρ' G' ⟨v22, e1, u, hBx⟩ => ?_⟩
    · obtain ⟨bk, hbk, hbl, hh⟩ := key i z hz
      subst e1
      refine g_name (i := 22) sc_books.nd ?_
      have ua : Upto [a] G14 G' := u.more (by simp)
      refine s_cons (s_if (b_isn (q_cal CH hr4 (a_cons (qv 1 rfl (a_cons (qv 2 rfl (a_cons (q_add (qv 22 rfl (q_lst (a_cons (qv 13 rfl (a_nil fun p hp => ?_))))))))))))))
      obtain ⟨u5, hB5, hL5⟩ := lst_rows hBx hp (.cons (hLast.upto ua) .nil)
      refine add_rows hB5 ((hbk.upto ua).upto (u5.more (by simp))) hL5 (by rw [List.length_singleton]; omega) fun w6 G6 u6 hB6 hL6 => ?_
      have ub : Upto [a] G14 G6 := ua.trans ((u5.trans u6).more (by simp))
      obtain ⟨q6, ws6, rfl, _, hq6, hbk6⟩ := hL6
      refine a_cons (qv 5 rfl (a_cons (q_add (qv 5 rfl (q_int ?_)))))
      refine a_nil ⟨t, e, q6, ts, es, _, ws6, many, many + 1, rfl, ub.at1 hT hta, ub.at1 hE hea, hq6, hbk6.at, by rw [List.length_append, List.length_singleton]; omega, Tok, Eok, ?_⟩
      rw [hh]
      refine q_bl (ifB_F (by decide) (s_nil (s_nil ⟨_, rfl, u.trans (u5.trans u6), hB6⟩)))
    subst e1
    have ua : Upto [a] G14 G' := u.more (by simp)
    have hT' := ua.at1 hT hta
    have hE' := ua.at1 hE hea
    have hO' := ua.at1 hO hoa
    have hS' := ua.at1 hS hSa
    have hWays' := hWays.upto ua
    have hLast' := hLast.upto ua
    have hLoop' := hLoop.upto ua
    have hRows' := hRows.upto ua
    have upG' := upG.trans ua
    clear key u ua hT hE hO hS hWays hLast hLoop hRows upG hB16
    -- more
    refine s_cons (s_cut (P := fun ρ3 G3 => ∃ m : Int, 1 ≤ m ∧ m ≤ 4 ∧ ρ3 = [some (.ref a), some (.ref t), some (.ref e), some (.ref o), some (.ref r), some (.int many), some (.ref Wa), some (.int LEN), v8, v9, v10, v11, v12, some (rowW (lastR many LEN) pl), some (.int x), some (.ref S), some (.int y), some (.tup [.ref p1, .int (wayL es x y)]), some (.tup [.ref p2, .int (wayL es y x)]), some (rowW (loopR es x y) p3), some (.int j), some wL, v22, some (.int m), none, none, none] ∧ G3 = G') ?_ ?_)
    · have hS2 := hS'
      have hO2 := hO'
      rw [nW_ints] at hS2 hO2
      refine s_set (i := 23) sc_books.nd (q_if (b_in (u65 hr) (qv 14 rfl (qv 15 rfl (fIn_ints hS2 ?_)))))
      refine ifB_dec (fun h => ?_) (fun h => ?_)
      · refine q_count PySem.F.slot_list_count PySem.F.type_list_count (qv 3 rfl ⟨o, _, rfl, hO2, ?_⟩)
        refine a_cons (qv 14 rfl (a_nil ⟨_, hO2, ?_⟩))
        obtain ⟨x', hx', ex⟩ := List.mem_map.mp h
        have hx1 : (x : Int) ∈ one.map fun (k : Nat) => (k : Int) := List.mem_map.mpr ⟨x', sOne x' hx', ex⟩
        have c1 := List.count_pos_iff.mpr hx1
        have c2 := List.count_le_length (a := (x : Int)) (l := one.map fun (k : Nat) => (k : Int))
        rw [List.length_map] at c2
        exact ⟨_, by omega, by omega, rfl, rfl⟩
      · exact q_int ⟨1, by omega, by omega, rfl, rfl⟩
    rintro _ Gq ⟨m, m1, m4', rfl, rfl⟩
    have mul2 : 2 ≤ (loopR es x y).len * m := by
      have := M.pos
      have : m = 1 ∨ m = 2 ∨ m = 3 ∨ m = 4 := by omega
      rcases this with rfl | rfl | rfl | rfl <;> omega
    have lp2 := M.pos
    -- the books that do not hold: two
    refine s_cons (s_set (i := 24) sc_books.nd (q_lst (a_cons (q_add (qv 21 rfl (q_lst (a_cons (q_add (q_sl (qv 13 rfl (o_non (o_some (q_int ?_)))))))))))))
    refine q_tup (a_cons (q_add (qv 7 rfl (q_mul (q_ix (qv 19 rfl (q_int ?_)))))))
    refine qv 23 rfl ⟨mulokR (by omega) (by omega), ?_⟩
    refine a_cons (q_ix (qv 13 rfl (q_int ?_)))
    refine a_nil ⟨(by show 2 + 2 ≤ sizeLine; decide), ?_⟩
    refine a_nil fun p5 hp5 => ?_
    obtain ⟨u1, hB1, hL1⟩ := lst_rows hBx hp5 (.cons (last_any hLast' (LEN + (loopR es x y).len * m)) .nil)
    refine add_rows hB1 (hRows'.upto (u1.more (by simp))) hL1 (by rw [List.length_singleton]; omega) fun w1 G4 u2 hB2 hb1 => ?_
    have u4 : Upto [a] Gq G4 := (u1.trans u2).more (by simp)
    have bad1 : BadX a ts es many G4 w1 := ⟨_, hb1, by rw [List.length_append, List.length_singleton]; omega, M.f3 _ (by omega)⟩
    refine a_cons (q_add (qv 21 rfl (q_lst (a_cons (q_add (q_sl (qv 13 rfl (o_non (o_some (q_int ?_))))))))))
    refine q_tup (a_cons (q_add (qv 7 rfl (q_int ?_))))
    refine a_cons (q_ix (qv 13 rfl (q_int ?_)))
    refine a_nil ⟨(by show 2 + 2 ≤ sizeLine; decide), ?_⟩
    refine a_nil fun p6 hp6 => ?_
    obtain ⟨u5, hB5, hL5⟩ := lst_rows hB2 hp6 (.cons (last_any (hLast'.upto u4) (LEN + 1)) .nil)
    refine add_rows hB5 ((hRows'.upto u4).upto (u5.more (by simp))) hL5 (by rw [List.length_singleton]; omega) fun w2 G5 u6 hB6 hb2 => ?_
    have u7 : Upto [a] G4 G5 := (u5.trans u6).more (by simp)
    have bad2 : BadX a ts es many G5 w2 := ⟨_, hb2, by rw [List.length_append, List.length_singleton]; omega, M.f3 _ (by omega)⟩
    have bad1' := bad1.upto u7
    have u8 := u4.trans u7
    refine a_nil fun pB hpB => ?_
    -- the third
    have hpBa : pB ≠ a := by simpa using hB6.fresh hpB
    have hRows5 := (hRows'.upto u8).addN hpB
    have hLast5 := (last_any (hLast'.upto u8) (LEN + (loopR es x y).len)).addN hpB
    have un : Upto [] G5 (aup G5 pB (.lst [w1, w2])) := Upto.refl.new hpB
    have hRows6 := hRows5.upto (un.more (by simp))
    have hLast6 := hLast5.upto (un.more (by simp))
    have hQ6 : (aup G5 pB (.lst [w1, w2])) pB = some (.lst [w1, w2]) := aup_same
    have hB7 := hB6.sub un
    generalize hG6 : aup G5 pB (.lst [w1, w2]) = G6 at un hRows6 hLast6 hQ6 hB7 ⊢
    have fr6 : ∀ G7, Upto [] G6 G7 → ∀ p, G7 p = none → p ∉ [pB, a] := fun G7 u p hp => by
      have h1 := (hB7.sub u).fresh hp
      have h2 : p ≠ pB := (ane_none (u pB _ (by simp) hQ6) hp).symm
      simp only [List.mem_cons, List.not_mem_nil, or_false, not_or] at h1 ⊢
      exact ⟨h2, h1⟩
    refine s_cons (s_expr (q_append (qv 24 rfl ⟨pB, _, rfl, hQ6, ?_⟩)))
    refine a_cons (q_add (qv 21 rfl (q_lst (a_cons (q_add (q_sl (qv 13 rfl (o_non (o_some (q_int ?_))))))))))
    refine q_tup (a_cons (q_add (qv 7 rfl (q_ix (qv 19 rfl (q_int ?_))))))
    refine a_cons (q_ix (qv 13 rfl (q_int ?_)))
    refine a_nil ⟨(by show 2 + 2 ≤ sizeLine; decide), ?_⟩
    refine a_nil fun p7 hp7 => ?_
    obtain ⟨u9, hL9⟩ := lst_rowsL (fr6 _ Upto.refl) hp7 (.cons hLast6 .nil)
    refine add_rowsL (fr6 _ u9) (hRows6.upto (u9.more (by simp))) hL9 (by rw [List.length_singleton]; omega) fun w3 G7 u10 hb3 => ?_
    refine a_nil ⟨[w1, w2], (u9.trans u10) pB _ (by simp) hQ6, by show 2 < sizeLine; decide, ?_⟩
    have bad3 : BadX a ts es many (aup G7 pB (.lst ([w1, w2] ++ [w3]))) w3 := ⟨_, (hb3.upto (Upto.refl.put (by simp))).less (by simp), by rw [List.length_append, List.length_singleton]; omega, M.f3 _ (by omega)⟩
    have u11 : Upto [a] G5 (aup G7 pB (.lst ([w1, w2] ++ [w3]))) := ((un.trans (u9.trans u10)).more (l' := [a]) (by simp)).putN hpB
    have hBad : ∀ w ∈ ([w1, w2] ++ [w3] : List W), BadX a ts es many (aup G7 pB (.lst ([w1, w2] ++ [w3]))) w := fun w hw => by
      simp only [List.cons_append, List.nil_append, List.mem_cons, List.not_mem_nil, or_false] at hw
      rcases hw with rfl | rfl | rfl
      · exact bad1'.upto u11
      · exact bad2.upto u11
      · exact bad3
    have hQ7 : (aup G7 pB (.lst ([w1, w2] ++ [w3]))) pB = some (.lst ([w1, w2] ++ [w3])) := aup_same
    have hB8 := (hB7.sub (u9.trans u10)).old (o := .lst ([w1, w2] ++ [w3])) hpBa.symm
    have u12 := u8.trans u11
    generalize aup G7 pB (.lst ([w1, w2] ++ [w3])) = G8 at hBad hQ7 hB8 u12 ⊢
    clear bad1 bad1' bad2 bad3 u11 u10 u9 hb3 hL9 hp7 fr6 hRows6 hLast6 hRows5 hLast5 hQ6 hB7 un hG6 u8 u7 hb2 hB6 u6 hL5 hB5 u5 hp6 u4 hb1 hB2 u2 hL1 hB1 u1 hp5 hpB
    -- k
    have hWays8 := hWays'.upto u12
    obtain ⟨_, ws8, ew, _, hW8, hBk8⟩ := id hWays8
    cases ew
    have wl8 := Paired.length hBk8
    have someW := M.some
    refine s_cons (s_set (i := 25) sc_books.nd (q_cal CT hr1 (a_cons (qv 0 rfl (a_cons (q_len B.len (a_cons (qv 6 rfl (a_nil ⟨_, hW8, ?_⟩)))))))))
    refine a_nil ⟨a, n + 39, _, rfl, hB8, by omega, by omega, fun k G9 k0 k1 off hB9 => ?_⟩
    obtain ⟨k, rfl⟩ : ∃ z : Nat, k = z := ⟨k.toNat, by omega⟩
    have hk : k < ways.length := by omega
    have u9 : Upto [a] Gq G9 := u12.trans (.off off)
    have hWays9 := hWays'.upto u9
    have hRows9 := hRows'.upto u9
    have hLast9 := hLast'.upto u9
    have hLoop9 := hLoop'.upto u9
    have hQ9 := (Upto.off off).at1 hQ7 hpBa
    have hBad9 : ∀ w ∈ ([w1, w2] ++ [w3] : List W), BadX a ts es many G9 w := fun w hw => (hBad w hw).upto (.off off)
    have hT9 := u9.at1 hT' hta
    have hE9 := u9.at1 hE' hea
    have up9 := upG'.trans u9
    have bsl : ([w1, w2] ++ [w3] : List W).length ≤ 3 := Nat.le_refl _
    generalize ([w1, w2] ++ [w3] : List W) = bs at hQ9 hBad9 bsl
    clear hWays8 hW8 hBk8 wl8 off k0 k1 hB8 hQ7 hBad u12 u9 hT' hE' hO' hS' hWays' hLast' hLoop' hRows' upG'
    -- three more
    refine s_cons (s_set (i := 24) sc_books.nd (q_add (qv 24 rfl (q_lst (a_cons (q_add (q_add (q_sl (qv 6 rfl (o_non (o_some (qv 25 rfl ?_))))))))))))
    refine onI_int (cut_rows (ways.take k) hB9 hWays9 (fun ws h => by rw [cutW_to]; exact paired_take h k) fun w4 G10 v1 hB10 hL10 => ?_)
    refine q_sl (qv 6 rfl (o_some (q_add (qv 25 rfl (q_int ?_)))))
    refine (o_non ?_ : OQ _ none _ _ _)
    refine cut_rows (ways.drop (k + 1)) hB10 (hWays9.upto (v1.more (by simp))) (fun ws h => by show BkX _ _ _ (cutW ws (some ((k + 1 : Nat) : Int)) none); rw [cutW_from]; exact paired_drop h (k + 1)) fun w5 G11 v2 hB11 hL11 => ?_
    refine add_rows hB11 (hL10.upto (v2.more (by simp))) hL11 (by rw [List.length_take, List.length_drop]; omega) fun w6 G12 v3 hB12 hL12 => ?_
    refine q_lst (a_cons (qv 13 rfl (a_nil fun p8 hp8 => ?_)))
    have v123 := (v1.trans v2).trans v3
    obtain ⟨v4, hB13, hL13⟩ := lst_rows hB12 hp8 (.cons (hLast9.upto (v123.more (by simp))) .nil)
    refine add_rows hB13 (hL12.upto (v4.more (by simp))) hL13 (by rw [List.length_append, List.length_take, List.length_drop, List.length_singleton]; omega) fun w7 G13 v5 hB14 hb4 => ?_
    have v15 : Upto [a] G9 G13 := ((v123.trans v4).trans v5).more (by simp)
    have bad4 : BadX a ts es many G13 w7 := ⟨_, hb4, by rw [List.length_append, List.length_append, List.length_take, List.length_drop, List.length_singleton]; omega, M.f4 k hk⟩
    clear hL13 hL12 hL11 hL10 hb4 hp8 hB13 hB12 hB11 hB10 hB9 v5 v4 v3 v2 v1 v123
    refine a_cons (q_add (q_add (q_sl (qv 6 rfl (o_non (o_some (qv 25 rfl ?_)))))))
    refine onI_int (cut_rows (ways.take k) hB14 (hWays9.upto v15) (fun ws h => by rw [cutW_to]; exact paired_take h k) fun w4 G10 v1 hB10 hL10 => ?_)
    refine q_sl (qv 6 rfl (o_some (q_add (qv 25 rfl (q_int ?_)))))
    refine (o_non ?_ : OQ _ none _ _ _)
    refine cut_rows (ways.drop (k + 1)) hB10 ((hWays9.upto v15).upto (v1.more (by simp))) (fun ws h => by show BkX _ _ _ (cutW ws (some ((k + 1 : Nat) : Int)) none); rw [cutW_from]; exact paired_drop h (k + 1)) fun w5 G11 v2 hB11 hL11 => ?_
    refine add_rows hB11 (hL10.upto (v2.more (by simp))) hL11 (by rw [List.length_take, List.length_drop]; omega) fun w6 G12 v3 hB12 hL12 => ?_
    have v123 := (v1.trans v2).trans v3
    have w9 : Upto [a] G9 G12 := v15.trans (v123.more (by simp))
    have hWays12 := hWays9.upto w9
    obtain ⟨_, ws12, ew, _, hW12, hBk12⟩ := id hWays12
    cases ew
    obtain ⟨rk, hrk⟩ : ∃ rk, ways[k]? = some rk := ⟨ways[k], by simp [hk]⟩
    obtain ⟨vk, hvk, hRk⟩ := paired_get hBk12 hrk
    refine q_lst (a_cons (qv 13 rfl (a_cons (q_ix (qv 6 rfl (qv 25 rfl ⟨_, _, hW12, atI_of hvk, ?_⟩))))))
    refine a_nil fun p8 hp8 => ?_
    obtain ⟨v4, hB13, hL13⟩ := lst_rows hB12 hp8 (.cons (hLast9.upto w9) (.cons hRk .nil))
    refine add_rows hB13 (hL12.upto (v4.more (by simp))) hL13 (by rw [List.length_append, List.length_take, List.length_drop]; show _ + 2 ≤ _; omega) fun w8 G14 v5 hB15 hb5 => ?_
    have v16 : Upto [a] G13 G14 := ((v123.trans v4).trans v5).more (by simp)
    have bad5 : BadX a ts es many G14 w8 := ⟨_, hb5, by rw [List.length_append, List.length_append, List.length_take, List.length_drop]; show _ + 2 ≤ _; omega, M.f5 k rk hk⟩
    have bad4' := bad4.upto v16
    have v17 := v15.trans v16
    clear bad4 hL13 hL12 hL11 hL10 hb5 hp8 hB13 hB12 hB11 hB10 hB14 v5 v4 v3 v2 v1 v123 v16 w9 v15 hWays12 hW12 hBk12
    refine a_cons (q_add (qv 21 rfl (q_lst (a_cons (qv 19 rfl (a_cons (qv 13 rfl (a_nil fun p9 hp9 => ?_))))))))
    obtain ⟨v1, hB10, hL10⟩ := lst_rows hB15 hp9 (.cons (hLoop9.upto v17) (.cons (hLast9.upto v17) .nil))
    refine add_rows hB10 ((hRows9.upto v17).upto (v1.more (by simp))) hL10 (by show _ + 2 ≤ _; omega) fun w9 G15 v2 hB11 hb6 => ?_
    have v18 : Upto [a] G14 G15 := (v1.trans v2).more (by simp)
    have bad6 : BadX a ts es many G15 w9 := ⟨_, hb6, by rw [List.length_append]; show _ + 2 ≤ _; omega, M.f6⟩
    have bad4 := bad4'.upto v18
    have bad5' := bad5.upto v18
    have v19 := v17.trans v18
    refine a_nil fun p10 hp10 => ?_
    have hQ15 := v19.at1 hQ9 hpBa
    refine ⟨bs, _, aup_new hp10 hQ15, aup_same, Nat.le_trans (m := 10) (by show _ + 3 ≤ _; omega) (by decide), fun pC hpC => ?_⟩
    obtain ⟨hpC1, _⟩ := aup_free hpC
    have v20 : Upto [a] G15 (aup (aup G15 p10 (.lst [w7, w8, w9])) pC (.lst (bs ++ [w7, w8, w9]))) := (Upto.refl.new hp10).new hpC
    have hBadC : ∀ w ∈ bs ++ [w7, w8, w9], BadX a ts es many (aup (aup G15 p10 (.lst [w7, w8, w9])) pC (.lst (bs ++ [w7, w8, w9]))) w := fun w hw => by
      rcases List.mem_append.mp hw with hw | hw
      · exact (hBad9 w hw).upto (v19.trans v20)
      · simp only [List.mem_cons, List.not_mem_nil, or_false] at hw
        rcases hw with rfl | rfl | rfl
        · exact bad4.upto v20
        · exact bad5'.upto v20
        · exact bad6.upto v20
    have hQC : (aup (aup G15 p10 (.lst [w7, w8, w9])) pC (.lst (bs ++ [w7, w8, w9]))) pC = some (.lst (bs ++ [w7, w8, w9])) := aup_same
    have hBC := (hB11.new (o := .lst [w7, w8, w9]) hp10).new (o := .lst (bs ++ [w7, w8, w9])) hpC
    have hpCa : pC ≠ a := by simpa using hB11.fresh hpC1
    have v21 := v19.trans v20
    have bCl : (bs ++ [w7, w8, w9]).length ≤ 6 := by rw [List.length_append]; show _ + 3 ≤ _; omega
    generalize bs ++ [w7, w8, w9] = bs2 at hBadC hQC hBC v21 bCl ⊢
    generalize aup (aup G15 p10 (.lst [w7, w8, w9])) pC (.lst bs2) = G16 at hBadC hQC hBC v21 ⊢
    clear v20 hpC hpC1 hp10 hQ15 v19 bad4 bad5 bad5' bad6 bad4' v18 hb6 hB11 hL10 hB10 v1 v2 v17 hp9 hB15
    -- the last three
    refine s_cons (s_set (i := 24) sc_books.nd (q_add (qv 24 rfl (q_lst (a_cons (qv 21 rfl (a_cons (q_lst (a_cons (qv 13 rfl (a_nil fun p8 hp8 => ?_)))))))))))
    have hRows16 := hRows9.upto v21
    have hLast16 := hLast9.upto v21
    obtain ⟨v1, hB10, hL10⟩ := lst_rows hBC hp8 (.cons hLast16 .nil)
    have bad8 : BadX a ts es many _ (.ref p8) := ⟨_, hL10, by show 1 ≤ 100; decide, M.f8⟩
    refine a_cons (q_add (qv 21 rfl (q_lst (a_cons (qv 13 rfl (a_cons (qv 13 rfl (a_nil fun p9 hp9 => ?_))))))))
    have hLast17 := hLast16.upto (v1.more (l' := [a]) (by simp))
    obtain ⟨v2, hB11, hL11⟩ := lst_rows hB10 hp9 (.cons hLast17 (.cons hLast17 .nil))
    refine add_rows hB11 ((hRows16.upto (v1.more (by simp))).upto (v2.more (by simp))) hL11 (by show _ + 2 ≤ _; omega) fun w9 G17 v3 hB12 hb9 => ?_
    have v4 : Upto [a] G16 G17 := ((v1.trans v2).trans v3).more (by simp)
    have bad9 : BadX a ts es many G17 w9 := ⟨_, hb9, by rw [List.length_append]; show _ + 2 ≤ _; omega, M.f9⟩
    have bad8' := bad8.upto ((v2.trans v3).more (by simp))
    have bad7 : BadX a ts es many G17 wL := ⟨_, hRows16.upto v4, by omega, M.f7⟩
    refine a_nil fun p10 hp10 => ?_
    have hQ17 := v4.at1 hQC hpCa
    refine ⟨bs2, _, aup_new hp10 hQ17, aup_same, Nat.le_trans (m := 10) (by show _ + 3 ≤ _; omega) (by decide), fun pD hpD => ?_⟩
    obtain ⟨hpD1, _⟩ := aup_free hpD
    have v5 : Upto [a] G17 (aup (aup G17 p10 (.lst [wL, .ref p8, w9])) pD (.lst (bs2 ++ [wL, .ref p8, w9]))) := (Upto.refl.new hp10).new hpD
    have hBadD : ∀ w ∈ bs2 ++ [wL, .ref p8, w9], BadX a ts es many (aup (aup G17 p10 (.lst [wL, .ref p8, w9])) pD (.lst (bs2 ++ [wL, .ref p8, w9]))) w := fun w hw => by
      rcases List.mem_append.mp hw with hw | hw
      · exact (hBadC w hw).upto (v4.trans v5)
      · simp only [List.mem_cons, List.not_mem_nil, or_false] at hw
        rcases hw with rfl | rfl | rfl
        · exact bad7.upto v5
        · exact bad8'.upto v5
        · exact bad9.upto v5
    have hQD : (aup (aup G17 p10 (.lst [wL, .ref p8, w9])) pD (.lst (bs2 ++ [wL, .ref p8, w9]))) pD = some (.lst (bs2 ++ [wL, .ref p8, w9])) := aup_same
    have hBD := (hB12.new (o := .lst [wL, .ref p8, w9]) hp10).new (o := .lst (bs2 ++ [wL, .ref p8, w9])) hpD
    have v6 := (v21.trans v4).trans v5
    have bDl : (bs2 ++ [wL, .ref p8, w9]).length ≤ 9 := by rw [List.length_append]; show _ + 3 ≤ _; omega
    have hTD := v6.at1 hT9 hta
    have hED := v6.at1 hE9 hea
    have upD := up9.trans v6
    generalize bs2 ++ [wL, .ref p8, w9] = bs3 at hBadD hQD hBD bDl hTD hED upD ⊢
    generalize aup (aup G17 p10 (.lst [wL, .ref p8, w9])) pD (.lst bs3) = G18 at hBadD hQD hBD hTD hED upD ⊢
    -- none of them holds
    refine s_cons (s_ret (q_not (q_any B.any (a_cons (q_lc sc_books.nd (blkOk_by (N := nBooks) (sc := defScope sBooks) (own := [("book", 26)]) (by decide +kernel)) (i_list (qv 24 rfl ⟨pD, _, rfl, hQD, ?_⟩)))))))
    refine lk_map1 (f := fun _ => W.bl false) sc_books.nd (by omega) (fun D ws hD => aup_new hD hQD) (fun z hz D ws hD s0 H0 Cc cl fp => ?_) (fun D hD => ?_)
    · obtain ⟨bk, ⟨q, wsq, rfl, _, hq, hbk⟩, hbl, hh⟩ := hBadD z hz
      have uD : Upto [a] G18 (aup G18 D (.lst ws)) := Upto.refl.new hD
      refine q_cal CH hr4 (a_cons (qv 1 rfl (a_cons (qv 2 rfl (a_cons (qv 26 rfl (a_cons (qv 5 rfl (a_cons (q_add (qv 5 rfl (q_int ?_))))))))))))
      refine a_nil ⟨t, e, q, ts, es, bk, wsq, many, many + 1, rfl, uD.at1 hTD hta, uD.at1 hED hea, aup_new hD hq, (hbk.upto uD).at, by omega, Tok, Eok, ?_⟩
      rw [hh]
      exact ⟨rfl, rfl⟩
    refine a_nil ⟨bs3.map fun _ => false, ?_, ?_⟩
    · rw [aup_same, List.map_map]; rfl
    have any0 : (bs3.map fun _ => false).any id = false := by
      rw [List.any_eq_false]
      intro b hb
      obtain ⟨_, _, rfl⟩ := List.mem_map.mp hb
      simp
    rw [any0]
    exact ⟨_, Sub.refl, kk _ (upD.new hD) ((hBD.new hD).less (by omega))⟩
end
end SW
namespace SW
open PySem PySem.Spec L2 AL
/-! ### a long chain -/
def L20 : Str := "abcdefghijklmnopqrst"
def ch (i : Nat) : Str := ⟨#[L20.cps.toList.getD i default]⟩
def wk (k : Nat) : Str := ch (k / 20) ++ ch (k % 20)
def chain : List Tm := (List.range 400).map fun k => Tm.name (wk k)
def ord (cut : Nat) : List Nat := (List.range 399).map fun i => (cut + i) % 399
def mkE (k : Nat) : Ed := ⟨k, k + 1, 1 + k, .tup [.str "told"]⟩
def idx (cut k : Nat) : Nat := (k + 399 - cut) % 399
def stepsC (cut : Nat) : List Sp := (List.range 399).map fun (k : Nat) => Sp.edge (k : Int) ((k : Int) + 1) (idx cut k : Nat)
def gl (g : Nat) : List Nat := (List.range 400).map fun k => if k ≤ g then 0 else g + 1
theorem chain_len : chain.length = 400 := by simp [chain]
theorem chain_at {k : Nat} (h : k < 400) : chain[k]? = some (Tm.name (wk k)) := by simp [chain, h]
theorem gl_at {g k : Nat} (h : k < 400) : (gl g).getD k 0 = if k ≤ g then 0 else g + 1 := by simp [gl, List.getD, h]
theorem ch_inj : ∀ i, i < 20 → ∀ j, j < 20 → L20.cps.toList.getD i default = L20.cps.toList.getD j default → i = j := by decide +kernel
theorem wk_inj {i j : Nat} (hi : i < 400) (hj : j < 400) (h : wk i = wk j) : i = j := by
  have h2 : (wk i).cps.toList = (wk j).cps.toList := by rw [h]
  have e : ∀ k, (wk k).cps.toList = [L20.cps.toList.getD (k / 20) default, L20.cps.toList.getD (k % 20) default] := fun k => rfl
  rw [e, e] at h2
  simp only [List.cons.injEq, and_true] at h2
  have a := ch_inj (i / 20) (by omega) (j / 20) (by omega) h2.1
  have b := ch_inj (i % 20) (by omega) (j % 20) (by omega) h2.2
  omega
theorem chain_wf : WfT chain := fun i w ks h => by
  have l := (List.getElem?_eq_some_iff.mp h).1
  rw [chain_len] at l
  rw [chain_at l] at h
  cases h
theorem chain_ok : TsOk chain := ⟨chain_wf, (fun i w ks h => by
  have l := (List.getElem?_eq_some_iff.mp h).1
  rw [chain_len] at l
  rw [chain_at l] at h
  cases h), by rw [chain_len]; exact Nat.le_refl _⟩
theorem closed_gap {es : List (Nat × Nat)} {g : Nat} (h1 : ∀ e ∈ es, ∃ k, k < 399 ∧ k ≠ g ∧ e = (k, k + 1)) (h2 : ∀ k, k < 399 → k ≠ g → (k, k + 1) ∈ es) : closedM chain es = gl g := by
  have he : ∀ e ∈ es, e.1 < chain.length ∧ e.2 < chain.length := fun e he => by
    obtain ⟨k, hk, _, rfl⟩ := h1 e he
    rw [chain_len]
    show k < 400 ∧ k + 1 < 400
    omega
  refine Closed.one (closed_ok chain_wf he) ?_
  have good : Good chain.length (gl g) := by
    rw [chain_len]
    refine ⟨by simp [gl], fun k hk => ?_, fun k hk => ?_⟩
    · rw [gl_at hk]; split <;> omega
    · rw [gl_at hk]
      split
      · rw [gl_at (by omega), if_pos (Nat.zero_le _)]
      · rw [gl_at (by omega), if_neg (by omega)]
  refine ⟨good, fun e he => ?_, fun i j t u hi hj e => ?_, fun R C k hk => ?_⟩
  · obtain ⟨k, hk, hg, rfl⟩ := h1 e he
    show (gl g).getD k 0 = (gl g).getD (k + 1) 0
    rw [gl_at (by omega), gl_at (by omega)]
    by_cases q : k ≤ g
    · rw [if_pos q, if_pos (by omega)]
    · rw [if_neg q, if_neg (by omega)]
  · have li := (List.getElem?_eq_some_iff.mp hi).1
    have lj := (List.getElem?_eq_some_iff.mp hj).1
    rw [chain_len] at li lj
    rw [chain_at li] at hi
    rw [chain_at lj] at hj
    cases hi
    cases hj
    have e : Tm.name (wk i) = Tm.name (wk j) := e
    rw [wk_inj li lj (Tm.name.inj e)]
  · rw [chain_len] at hk
    have up : ∀ d a, a + d < 400 → (∀ i, a ≤ i → i < a + d → i ≠ g) → R (a + d) a := by
      intro d
      induction d with
      | zero => intro a _ _; exact C.refl a
      | succ d ih =>
        intro a ha hn
        exact C.trans _ _ _ (C.symm _ _ (C.edge _ (h2 (a + d) (by omega) (hn (a + d) (by omega) (by omega))))) (ih a (by omega) fun i h1 h2 => hn i h1 (by omega))
    rw [gl_at hk]
    split
    · rename_i q
      have := up k 0 (by omega) (fun i _ h => by omega)
      rwa [Nat.zero_add] at this
    · rename_i q
      have := up (k - (g + 1)) (g + 1) (by omega) (fun i h _ => by omega)
      rwa [show g + 1 + (k - (g + 1)) = k by omega] at this
theorem gl_rep {g : Nat} (h : g < 400) : gl g = List.replicate (g + 1) 0 ++ List.replicate (400 - (g + 1)) (g + 1) := by
  refine List.ext_getElem ?_ fun k h1 h2 => ?_
  · simp [gl]; omega
  · have hk : k < 400 := by simpa [gl] using h1
    rw [List.getElem_append]
    simp only [gl, List.getElem_map, List.getElem_range, List.length_replicate, List.getElem_replicate]
    by_cases q : k ≤ g
    · rw [if_pos q, dif_pos (by omega)]
    · rw [if_neg q, dif_neg (by omega)]
theorem ord_len (cut : Nat) : (ord cut).length = 399 := by simp [ord]
theorem ord_at {cut i : Nat} (h : i < 399) : (ord cut)[i]? = some ((cut + i) % 399) := by simp [ord, h]
theorem ord_idx {cut k : Nat} (hc : cut < 399) (h : k < 399) : (ord cut)[idx cut k]? = some k := by
  rw [ord_at (by unfold idx; omega)]
  unfold idx
  congr 1
  omega
theorem ord_first {cut k m : Nat} (hc : cut < 399) (h : k < 399) (hm : m < idx cut k) : (ord cut)[m]? ≠ some k := by
  unfold idx at hm
  rw [ord_at (by omega)]
  intro e
  have := Option.some.inj e
  omega
theorem ord_two {cut : Nat} (hc : cut < 399) : nW (ord cut) = rngW cut 1 (399 - cut) ++ rngW 0 1 cut := by
  refine List.ext_getElem (by rw [nW_length, ord_len, List.length_append, rngW_length, rngW_length]; omega) fun k h1 h2 => ?_
  have hk : k < 399 := by rw [nW_length, ord_len] at h1; exact h1
  rw [List.getElem_append]
  simp only [nW, ord, rngW, List.getElem_map, List.getElem_range, List.length_map, List.length_range]
  by_cases q : k < 399 - cut
  · rw [dif_pos q]; congr 1; omega
  · rw [dif_neg q]; congr 1; omega
theorem ends_ord (cut : Nat) (xs : List Nat) : ends (xs.map mkE) = xs.map fun k => (k, k + 1) := by
  unfold ends; rw [List.map_map]; rfl
theorem closed_full {cut : Nat} (hc : cut < 399) : closedM chain (ends ((ord cut).map mkE)) = gl 399 := by
  rw [ends_ord cut]
  refine closed_gap (fun e he => ?_) (fun k hk _ => ?_)
  · obtain ⟨k, hk, rfl⟩ := List.mem_map.mp he
    obtain ⟨i, hi, rfl⟩ := List.mem_map.mp hk
    exact ⟨(cut + i) % 399, by omega, by omega, rfl⟩
  · exact List.mem_map.mpr ⟨k, List.mem_of_getElem? (ord_idx hc hk), rfl⟩
theorem closed_less {cut gp : Nat} (hc : cut < 399) (hg : gp < 399) : closedM chain (ends (((ord cut).take gp ++ (ord cut).drop (gp + 1)).map mkE)) = gl ((cut + gp) % 399) := by
  rw [ends_ord cut]
  have mem : ∀ k, k ∈ (ord cut).take gp ++ (ord cut).drop (gp + 1) ↔ ∃ i, i < 399 ∧ i ≠ gp ∧ (cut + i) % 399 = k := fun k => by
    rw [List.mem_append]
    constructor
    · rintro (h | h)
      · obtain ⟨i, hi⟩ := List.getElem?_of_mem h
        rw [List.getElem?_take] at hi
        split at hi
        · rename_i q
          rw [ord_at (by omega)] at hi
          exact ⟨i, by omega, by omega, Option.some.inj hi⟩
        · cases hi
      · obtain ⟨i, hi⟩ := List.getElem?_of_mem h
        rw [List.getElem?_drop] at hi
        have l := (List.getElem?_eq_some_iff.mp hi).1
        rw [ord_len] at l
        rw [ord_at l] at hi
        exact ⟨gp + 1 + i, l, by omega, Option.some.inj hi⟩
    · rintro ⟨i, hi, hne, e⟩
      by_cases q : i < gp
      · refine .inl (List.mem_of_getElem? (i := i) ?_)
        rw [List.getElem?_take, if_pos q, ord_at hi, e]
      · refine .inr (List.mem_of_getElem? (i := i - (gp + 1)) ?_)
        rw [List.getElem?_drop, show gp + 1 + (i - (gp + 1)) = i by omega, ord_at hi, e]
  refine closed_gap (fun e he => ?_) (fun k hk hne => ?_)
  · obtain ⟨k, hk, rfl⟩ := List.mem_map.mp he
    obtain ⟨i, hi, hne, rfl⟩ := (mem k).mp hk
    exact ⟨(cut + i) % 399, by omega, by omega, rfl⟩
  · exact List.mem_map.mpr ⟨k, (mem k).mpr ⟨idx cut k, by unfold idx; omega, fun e => by unfold idx at e; omega, by unfold idx; omega⟩, rfl⟩
/-! ### its book -/
theorem es_ok {cut : Nat} (hc : cut < 399) : EsOk chain ((ord cut).map mkE) := ⟨fun e he => by
  obtain ⟨k, hk, rfl⟩ := List.mem_map.mp he
  obtain ⟨i, hi, rfl⟩ := List.mem_map.mp hk
  rw [chain_len]
  show (cut + i) % 399 < 400 ∧ (cut + i) % 399 + 1 < 400
  omega, by rw [List.length_map, ord_len]; decide⟩
theorem step_edge {cut k : Nat} (hc : cut < 399) (hk : k < 399) (ab : Ab) : partM chain ((ord cut).map mkE) ab (.edge (k : Int) ((k : Int) + 1) (idx cut k : Nat)) = some (1 + (k : Int)) := by
  show edgeM _ _ _ _ = _
  unfold edgeM
  rw [if_pos (by rw [List.length_map, ord_len]; unfold idx; omega), Int.toNat_natCast, List.getElem?_map, ord_idx hc hk]
  show (if _ then _ else _) = _
  rw [if_pos (.inl ⟨rfl, rfl⟩)]; rfl
theorem chain_fold {cut : Nat} (hc : cut < 399) : ∀ i, i ≤ 399 → walkM chain ((ord cut).map mkE) [] 0 ((stepsC cut).take i) = some ((i : Int), ((List.range i).map fun (k : Nat) => 1 + (k : Int)).sum) := by
  intro i
  induction i with
  | zero => intro _; rfl
  | succ i ih =>
    intro hi
    have at' : (stepsC cut)[i]? = some (.edge (i : Int) ((i : Int) + 1) (idx cut i : Nat)) := by simp [stepsC, show i < 399 by omega]
    rw [walk_step at', ih (by omega)]
    unfold walkStep
    show (if (i : Int) = i then _ else _) = _
    rw [if_pos rfl, step_edge hc (by omega)]
    show some ((i : Int) + 1, _ + (1 + (i : Int))) = _
    rw [List.range_succ, List.map_append, List.sum_append]
    show _ = some (((i + 1 : Nat) : Int), _ + ((1 + (i : Int)) + 0))
    rw [Int.add_zero]; rfl
theorem chain_sum : ((List.range 399).map fun (k : Nat) => 1 + (k : Int)).sum = 399 * 200 := by decide +kernel
def chR (L : Int) (steps : List Sp) : Row := ⟨0, 399, L, steps⟩
theorem chain_row (es : List Ed) (L : Int) (steps : List Sp) : holdsM chain es [chR L steps] 0 399 = decide (rowM chain es [] (chR L steps) = some L) := by
  unfold holdsM
  rw [rowsM_cons, if_neg (by show ¬ (none : Option Int).isSome = true; simp)]
  show ((if rowM chain es [] (chR L steps) = some L then true else false) && decide ((0 : Int) = 0 ∧ (399 : Int) = 399)) = _
  have e : decide ((0 : Int) = 0 ∧ (399 : Int) = 399) = true := by decide
  rw [e, Bool.and_true]
  by_cases h : rowM chain es [] (chR L steps) = some L
  · rw [if_pos h, decide_eq_true h]
  · rw [if_neg h, decide_eq_false h]
theorem chain_holds {cut : Nat} (hc : cut < 399) : holdsM chain ((ord cut).map mkE) [chR (399 * 200) (stepsC cut)] 0 399 = true := by
  rw [chain_row]
  refine decide_eq_true ?_
  unfold rowM
  rw [if_pos (by rw [chain_len]; show (0 : Int) ≤ 0 ∧ (0 : Int) < (400 : Nat); decide)]
  have h := chain_fold hc 399 (Nat.le_refl _)
  rw [List.take_of_length_le (by simp [stepsC]), chain_sum] at h
  show (match walkM chain ((ord cut).map mkE) [] 0 (stepsC cut) with | some st => if st.1 = (399 : Int) then some st.2 else none | none => none) = _
  rw [h]
  rfl
theorem chain_fails {cut gp : Nat} (hc : cut < 399) (hg : gp < 399) : holdsM chain ((ord cut).map mkE) [chR (399 * 200) ((stepsC cut).take gp ++ (stepsC cut).drop (gp + 1))] 0 399 = false := by
  rw [chain_row]
  refine decide_eq_false ?_
  unfold rowM
  rw [if_pos (by rw [chain_len]; show (0 : Int) ≤ 0 ∧ (0 : Int) < (400 : Nat); decide)]
  show ¬ (match walkM chain ((ord cut).map mkE) [] 0 ((stepsC cut).take gp ++ (stepsC cut).drop (gp + 1)) with | some st => if st.1 = (399 : Int) then some st.2 else none | none => none) = _
  have h := chain_fold hc gp (by omega)
  unfold walkM at h ⊢
  rw [List.foldl_append, h]
  by_cases q : gp + 1 < 399
  · have : (stepsC cut).drop (gp + 1) = (.edge ((gp + 1 : Nat) : Int) (((gp + 1 : Nat) : Int) + 1) (idx cut (gp + 1) : Nat)) :: (stepsC cut).drop (gp + 1 + 1) := drop_of (by simp [stepsC, q])
    rw [this, List.foldl_cons]
    have : walkStep chain ((ord cut).map mkE) [] (some ((gp : Int), ((List.range gp).map fun (k : Nat) => 1 + (k : Int)).sum)) (.edge ((gp + 1 : Nat) : Int) (((gp + 1 : Nat) : Int) + 1) (idx cut (gp + 1) : Nat)) = none := by
      unfold walkStep
      show (if ((gp + 1 : Nat) : Int) = (gp : Int) then _ else _) = _
      rw [if_neg (by omega)]
    rw [this, walk_none]
    simp
  · have : (stepsC cut).drop (gp + 1) = [] := List.drop_eq_nil_of_le (by simp [stepsC]; omega)
    rw [this]
    show ¬ (if (gp : Int) = 399 then some _ else none) = _
    rw [if_neg (by omega)]
    simp
end SW
namespace SW
open PySem PySem.Spec L2 AL
theorem rng_nat (n : Nat) : rngW 0 1 n = (List.range n).map fun (k : Nat) => W.int k := by simp [rngW]
theorem rep_flat {α : Type} (w : α) : ∀ n : Nat, (List.replicate n [w]).flatten = List.replicate n w
  | 0 => rfl
  | n + 1 => by rw [List.replicate_succ, List.flatten_cons, rep_flat w n]; rfl
theorem nW_rep (n v : Nat) : nW (List.replicate n v) = List.replicate n (.int v) := by simp [nW]
theorem nW_app (xs ys : List Nat) : nW (xs ++ ys) = nW xs ++ nW ys := by simp [nW]
theorem L20_at {i : Nat} (h : i < 20) : L20.cps.toList[i]? = some (L20.cps.toList.getD i default) := by
  have : L20.cps.toList.length = 20 := by decide +kernel
  rw [List.getD, List.getElem?_eq_getElem (show i < L20.cps.toList.length by omega)]; rfl
theorem sub_int {i j : Int} {G : AH} {K : W → AH → Prop} (h : K (.int (i - j)) G) : fI0 (fun i j => i - j) (.int i) (.int j) G K := h
theorem fNe_self {G : AH} {K : W → AH → Prop} {a b : Addr} (ks : List Nat) (ha : G a = some (.lst (nW ks))) (hb : G b = some (.lst (nW ks))) (k : K (.bl false) G) : fNe (.ref a) (.ref b) G K := by
  refine fEq_nats ha hb ?_
  rw [if_pos rfl, decide_eq_true rfl]
  exact k
section
variable {P : Program} {w : World} {K : PySem.W.Frag} {mg : Str → Option Value} {base : Heap}
abbrev sChain : Stmt := top 19
abbrev nChain : List Str := ["box", "letters", "cut", "terms", "order", "edges", "steps", "gap", "first", "length", "k"]
theorem sc_chain : FnScope nChain ["box"] (defScope sChain) := ⟨rfl, rfl, rfl, by decide +kernel, rfl, by decide +kernel, by decide +kernel⟩
def spChain : ASp := fun ws G K _ => ∃ (a : Addr) (n : Nat), ws = [.ref a] ∧ BoxAt G a (n + 2) ∧ ∀ G', Upto [a] G G' → BoxAt G' a n → K (.bl true) G'
theorem ok_chain {f : Addr} {fd : FuncData} (F : Fun K "_law_chain_right" "_law_chain_right" sChain f fd) (B : Bl mg) (CT : Cal P w K mg base "_law_take" 1 ["box", "many"] spTake) (CC : Cal P w K mg base "closed" 3 ["terms", "edges"] spClosed)
    (CH : Cal P w K mg base "holds" 4 ["terms", "edges", "book", "a", "b"] spHd) : FnOk P w K mg base CX0 5 f fd ["box"] (low ⟨P, w, K⟩ spChain) := by
  refine fnA_of F sc_chain (fun ws G Kc KE ⟨a, n, e, _⟩ => by rw [e]; rfl) fun cdv A outer s H E ws G Kc KE hr ⟨a, n, e, hB, kk⟩ => ?_
  subst e
  have hr4 : Room 4 _ := hr
  have hr1 : Room 1 _ := hr.mono (by decide)
  have hr3 : Room 3 _ := hr.mono (by decide)
  -- letters, cut
  refine s_cons (s_asg (q_tup (a_cons (q_str (a_cons (q_cal CT hr1 (a_cons (qv 0 rfl (a_cons (q_int (a_nil ⟨a, n + 1, 399, rfl, hB, by decide, by decide, fun c G1 c0 c1 off hB1 => ?_⟩)))))))))))
  obtain ⟨cut, rfl⟩ : ∃ z : Nat, c = z := ⟨c.toNat, by omega⟩
  have hc : cut < 399 := by omega
  refine a_nil (g_tup rfl (gs_cons (g_name (i := 1) sc_chain.nd (gs_cons (g_name (i := 2) sc_chain.nd (gs_nil ?_))))))
  have up1 : Upto [a] G G1 := .off off
  refine SQ.st [some (.ref a), some (.str L20), some (.int cut), none, none, none, none, none, none, none, none] rfl ?_
  -- terms
  refine s_cons (s_setLc (i := 3) sc_chain.nd (blkOk_by (N := nChain) (sc := defScope sChain) (own := [("k", 10)]) (by decide +kernel)) (i_range1 rfl B.range (q_int ⟨by decide, by decide, ?_⟩)))
  rw [show rngW 0 1 (400 : Int).toNat = (List.range 400).map fun (k : Nat) => W.int k from rng_nat 400]
  refine lk_mapZ (zs := List.range 400) (fun (k : Nat) => W.int k) (fun k => W.tup [.str "name", .str (wk k)]) sc_chain.nd (by rw [List.length_range]; decide) (fun _ _ _ => trivial) (fun z hz D ws hD s0 H0 C cl fp => ?_) (fun t ht => ?_)
  · have hz : z < 400 := List.mem_range.mp hz
    refine q_tup (a_cons (q_str (a_cons (q_add (q_ix (qv 1 rfl (q_fdiv (qv 10 rfl (q_int ⟨⟨by decide, by decide⟩, ?_⟩)))))))))
    refine ⟨by decide +kernel, L20.cps.toList.getD (z / 20) default, ?_, ?_⟩
    · show atI L20.cps.toList ((z : Int) / 20) = _
      rw [show ((z : Int) / 20) = ((z / 20 : Nat) : Int) by omega]
      exact atI_nat (L20_at (by omega))
    refine q_ix (qv 1 rfl (q_mod (qv 10 rfl (q_int ⟨by show (0 : Int) < 20; decide, ?_⟩))))
    refine ⟨by decide +kernel, L20.cps.toList.getD (z % 20) default, ?_, ?_⟩
    · show atI L20.cps.toList ((z : Int) % 20) = _
      rw [show ((z : Int) % 20) = ((z % 20 : Nat) : Int) by omega]
      exact atI_nat (L20_at (by omega))
    exact ⟨by show 1 + 1 ≤ sizeLine; decide, a_nil ⟨rfl, rfl⟩⟩
  have et : (List.range 400).map (fun k => W.tup [.str "name", .str (wk k)]) = tW chain := by
    unfold tW chain; rw [List.map_map]; rfl
  rw [et]
  have hta : t ≠ a := by simpa using hB1.fresh ht
  have hT2 : (aup G1 t (.lst (tW chain))) t = some (.lst (tW chain)) := aup_same
  have up2 := up1.new (o := .lst (tW chain)) ht
  have hB2 := hB1.new (o := .lst (tW chain)) ht
  generalize aup G1 t (.lst (tW chain)) = G2 at hT2 up2 hB2 ⊢
  clear up1 hB1 off ht et
  -- order
  refine s_cons (s_set (i := 4) sc_chain.nd (q_add (q_lrg2 B.range B.list (qv 2 rfl (q_int ?_)))))
  refine ⟨RgOk.of_le (by omega) (by omega) (by omega) (by omega), fun o1 h1 => ?_⟩
  refine q_lrg1 B.range B.list (qv 2 rfl ?_)
  refine ⟨RgOk.of_le (by omega) (by omega) (by omega) (by omega), fun o2 h2 => ?_⟩
  refine ⟨_, _, aup_new h2 aup_same, aup_same, ?_, fun o ho => ?_⟩
  · rw [rngW_length, rngW_length]
    exact Nat.le_trans (m := 1000) (by omega) (by decide)
  rw [show ((399 : Int) - (cut : Int)).toNat = 399 - cut by omega, show ((cut : Int)).toNat = cut by omega, ← ord_two hc] at *
  have up3 := ((up2.new (o := .lst (rngW cut 1 (399 - cut))) h1).new (o := .lst (rngW 0 1 cut)) h2).new (o := .lst (nW (ord cut))) ho
  have hB3 := ((hB2.new (o := .lst (rngW cut 1 (399 - cut))) h1).new (o := .lst (rngW 0 1 cut)) h2).new (o := .lst (nW (ord cut))) ho
  have hT3 := aup_new (u := .lst (nW (ord cut))) ho (aup_new (u := .lst (rngW 0 1 cut)) h2 (aup_new (u := .lst (rngW cut 1 (399 - cut))) h1 hT2))
  have hO3 : (aup (aup (aup G2 o1 (.lst (rngW cut 1 (399 - cut)))) o2 (.lst (rngW 0 1 cut))) o (.lst (nW (ord cut)))) o = some (.lst (nW (ord cut))) := aup_same
  have hoa : o ≠ a := by simpa using ((hB2.new (o := .lst (rngW cut 1 (399 - cut))) h1).new (o := .lst (rngW 0 1 cut)) h2).fresh ho
  refine SQ.st [some (.ref a), some (.str L20), some (.int cut), some (.ref t), some (.ref o), none, none, none, none, none, none] rfl ?_
  generalize aup (aup (aup G2 o1 (.lst (rngW cut 1 (399 - cut)))) o2 (.lst (rngW 0 1 cut))) o (.lst (nW (ord cut))) = G3 at up3 hB3 hT3 hO3 ⊢
  clear ho h2 h1 hT2 up2 hB2
  -- edges
  refine s_cons (s_setLc (i := 5) sc_chain.nd (blkOk_by (N := nChain) (sc := defScope sChain) (own := [("k", 10)]) (by decide +kernel)) (i_list (qv 4 rfl ⟨o, _, rfl, hO3, ?_⟩)))
  refine lk_mapZ (zs := ord cut) (fun (k : Nat) => W.int k) (fun k => (mkE k).W) sc_chain.nd (by rw [ord_len]; decide) (fun D ws hD => aup_new hD hO3) (fun z hz D ws hD s0 H0 C cl fp => ?_) (fun e he => ?_)
  · refine q_tup (a_cons (qv 10 rfl (a_cons (q_add (qv 10 rfl (q_int ?_))))))
    refine a_cons (q_add (q_int (qv 10 rfl ?_)))
    exact a_cons (q_tup (a_cons (q_str (a_nil (a_nil ⟨rfl, rfl⟩)))))
  have ee : (ord cut).map (fun k => (mkE k).W) = eW ((ord cut).map mkE) := by
    unfold eW; rw [List.map_map]; rfl
  rw [ee]
  have hea : e ≠ a := by simpa using hB3.fresh he
  have hE4 : (aup G3 e (.lst (eW ((ord cut).map mkE)))) e = some (.lst (eW ((ord cut).map mkE))) := aup_same
  have hT4 := aup_new (u := .lst (eW ((ord cut).map mkE))) he hT3
  have hO4 := aup_new (u := .lst (eW ((ord cut).map mkE))) he hO3
  have up4 := up3.new (o := .lst (eW ((ord cut).map mkE))) he
  have hB4 := hB3.new (o := .lst (eW ((ord cut).map mkE))) he
  generalize aup G3 e (.lst (eW ((ord cut).map mkE))) = G4 at hE4 hT4 hO4 up4 hB4 ⊢
  clear he ee up3 hB3 hT3 hO3
  -- steps
  refine s_cons (s_setLc (i := 6) sc_chain.nd (blkOk_by (N := nChain) (sc := defScope sChain) (own := [("k", 10)]) (by decide +kernel)) (i_range1 rfl B.range (q_int ⟨by decide, by decide, ?_⟩)))
  rw [show rngW 0 1 (399 : Int).toNat = (List.range 399).map fun (k : Nat) => W.int k from rng_nat 399]
  refine lk_mapZ (zs := List.range 399) (fun (k : Nat) => W.int k) (fun (k : Nat) => (Sp.edge (k : Int) ((k : Int) + 1) (idx cut k : Nat)).W) sc_chain.nd (by rw [List.length_range]; decide) (fun _ _ _ => trivial) (fun z hz D ws hD s0 H0 C cl fp => ?_) (fun sa hsa => ?_)
  · have hz : z < 399 := List.mem_range.mp hz
    have hO5 := aup_new (u := .lst ws) hD hO4
    rw [nW_ints] at hO5
    refine q_tup (a_cons (q_str (a_cons (qv 10 rfl (a_cons (q_add (qv 10 rfl (q_int ?_))))))))
    refine a_cons (q_index PySem.F.slot_list_index PySem.F.type_list_index (qv 4 rfl ⟨o, _, rfl, hO5, ?_⟩))
    refine a_cons (qv 10 rfl (a_nil ⟨_, idx cut z, hO5, ?_, fun m hm e => ?_, ?_⟩))
    · rw [List.getElem?_map, ord_idx hc hz]; rfl
    · rw [List.getElem?_map] at e
      obtain ⟨y, hy, ey⟩ := Option.map_eq_some_iff.mp e
      exact ord_first hc hz hm (by rw [hy, Int.ofNat_inj.mp ey])
    · exact a_nil ⟨rfl, rfl⟩
  have es : (List.range 399).map (fun (k : Nat) => (Sp.edge (k : Int) ((k : Int) + 1) (idx cut k : Nat)).W) = (stepsC cut).map Sp.W := by
    unfold stepsC; rw [List.map_map]; rfl
  rw [es]
  have hsaa : sa ≠ a := by simpa using hB4.fresh hsa
  have hS5 : (aup G4 sa (.lst ((stepsC cut).map Sp.W))) sa = some (.lst ((stepsC cut).map Sp.W)) := aup_same
  have hE5 := aup_new (u := .lst ((stepsC cut).map Sp.W)) hsa hE4
  have hT5 := aup_new (u := .lst ((stepsC cut).map Sp.W)) hsa hT4
  have hO5 := aup_new (u := .lst ((stepsC cut).map Sp.W)) hsa hO4
  have up5 := up4.new (o := .lst ((stepsC cut).map Sp.W)) hsa
  have hB5 := hB4.new (o := .lst ((stepsC cut).map Sp.W)) hsa
  refine SQ.st [some (.ref a), some (.str L20), some (.int cut), some (.ref t), some (.ref o), some (.ref e), some (.ref sa), none, none, none, none] rfl ?_
  generalize aup G4 sa (.lst ((stepsC cut).map Sp.W)) = G5 at hS5 hE5 hT5 hO5 up5 hB5 ⊢
  clear hsa es up4 hB4 hT4 hO4 hE4
  have ebound : ∀ (xs : List Nat), (∀ k ∈ xs, k < 399) → ∀ e ∈ xs.map mkE, e.a < chain.length ∧ e.b < chain.length := fun xs h e he => by
    obtain ⟨k, hk, rfl⟩ := List.mem_map.mp he
    rw [chain_len]
    have := h k hk
    show k < 400 ∧ k + 1 < 400
    omega
  have ordlt : ∀ k ∈ ord cut, k < 399 := fun k hk => by
    obtain ⟨i, _, rfl⟩ := List.mem_map.mp hk
    omega
  -- closed whole
  refine s_cons (s_if (b_ne (u64 hr) (q_cal CC hr3 (a_cons (qv 3 rfl (a_cons (qv 5 rfl (a_nil ⟨t, e, chain, _, rfl, hT5, hE5, chain_ok, ebound _ ordlt, fun q1 h1 => ?_⟩))))))))
  rw [closed_full hc, gl_rep (show 399 < 400 by decide)]
  refine q_mul (q_lst (a_cons (q_int (a_nil fun q2 h2 => ?_))))
  refine q_int ⟨_, aup_same, by decide, by decide, by decide, fun q3 h3 => ?_⟩
  rw [show (400 : Int).toNat = 400 from rfl, rep_flat]
  refine fNe_self (List.replicate 400 0) (aup_new h3 (aup_new h2 ?_)) (by rw [nW_rep]; exact aup_same) ?_
  · rw [show (List.replicate (399 + 1) 0 ++ List.replicate (400 - (399 + 1)) (399 + 1)) = List.replicate 400 0 from List.append_nil _]
    exact aup_same
  refine ifF (s_nil ?_)
  have u6 : Upto [] G5 (aup (aup (aup G5 q1 (.lst (nW (List.replicate (399 + 1) 0 ++ List.replicate (400 - (399 + 1)) (399 + 1))))) q2 (.lst [.int 0])) q3 (.lst (List.replicate 400 (.int 0)))) := ((Upto.refl.new h1).new h2).new h3
  generalize aup (aup (aup G5 q1 (.lst (nW (List.replicate (399 + 1) 0 ++ List.replicate (400 - (399 + 1)) (399 + 1))))) q2 (.lst [.int 0])) q3 (.lst (List.replicate 400 (.int 0))) = G6 at u6 ⊢
  have hB6 := hB5.sub u6
  have u6a : Upto [a] G5 G6 := u6.more (by simp)
  have hT6 := u6a.at1 hT5 hta
  have hE6 := u6a.at1 hE5 hea
  have hO6 := u6a.at1 hO5 hoa
  have hS6 := u6a.at1 hS5 hsaa
  have up6 := up5.trans u6a
  clear u6a u6 h3 h2 h1 up5 hB5 hS5 hE5 hT5 hO5
  -- gap, first
  refine s_cons (s_set (i := 7) sc_chain.nd (q_cal CT hr1 (a_cons (qv 0 rfl (a_cons (q_int (a_nil ⟨a, n, 399, rfl, hB6.less (by omega), by decide, by decide, fun gp G7 g0 g1 off hB7 => ?_⟩)))))))
  obtain ⟨gp, rfl⟩ : ∃ z : Nat, gp = z := ⟨gp.toNat, by omega⟩
  have hg : gp < 399 := by omega
  have u7 : Upto [a] G6 G7 := .off off
  have hT7 := u7.at1 hT6 hta
  have hE7 := u7.at1 hE6 hea
  have hO7 := u7.at1 hO6 hoa
  have hS7 := u7.at1 hS6 hsaa
  have up7 := up6.trans u7
  clear u7 off up6 hB6 hS6 hE6 hT6 hO6 g0 g1
  generalize hfi : (cut + gp) % 399 = fi
  have hfi2 : fi < 399 := by omega
  refine s_cons (s_set (i := 8) sc_chain.nd (q_add (q_ix (qv 4 rfl (qv 7 rfl ⟨_, .int (fi : Nat), hO7, atI_of (nW_get (by rw [ord_at hg, hfi])), ?_⟩)))))
  refine q_int ?_
  refine SQ.st [some (.ref a), some (.str L20), some (.int cut), some (.ref t), some (.ref o), some (.ref e), some (.ref sa), some (.int gp), some (.int ((fi + 1 : Nat) : Int)), none, none] rfl ?_
  -- closed with a gap
  refine s_cons (s_if (b_ne (u64 hr) (q_cal CC hr3 (a_cons (qv 3 rfl (a_cons (q_add (q_sl (qv 5 rfl (o_non (o_some (qv 7 rfl ?_))))))))))))
  refine (onI_int (i := (gp : Int)) (k := fun i => fSl (.ref e) none (some i) G7 _) ?_ : _)
  refine ⟨_, hE7, fun q1 h1 => ?_⟩
  rw [cutW_to]
  refine q_sl (qv 5 rfl (o_some (q_add (qv 7 rfl (q_int ?_)))))
  refine (o_non ?_ : OQ _ none _ _ _)
  refine ⟨_, aup_new h1 hE7, fun q2 h2 => ?_⟩
  rw [show ((gp : Int) + 1) = ((gp + 1 : Nat) : Int) from rfl, cutW_from]
  refine ⟨_, _, aup_new h2 aup_same, aup_same, ?_, fun q3 h3 => ?_⟩
  · rw [List.length_take, List.length_drop, eW_length, List.length_map, ord_len]
    exact Nat.le_trans (m := 1000) (by omega) (by decide)
  have ee : (eW ((ord cut).map mkE)).take gp ++ (eW ((ord cut).map mkE)).drop (gp + 1) = eW (((ord cut).take gp ++ (ord cut).drop (gp + 1)).map mkE) := by
    unfold eW
    rw [List.map_append, List.map_append, List.map_take, List.map_take, List.map_drop, List.map_drop]
  rw [ee]
  have u8 : Upto [] G7 (aup (aup (aup G7 q1 (.lst ((eW ((ord cut).map mkE)).take gp))) q2 (.lst ((eW ((ord cut).map mkE)).drop (gp + 1)))) q3 (.lst (eW (((ord cut).take gp ++ (ord cut).drop (gp + 1)).map mkE)))) := ((Upto.refl.new h1).new h2).new h3
  have hE8 : (aup (aup (aup G7 q1 (.lst ((eW ((ord cut).map mkE)).take gp))) q2 (.lst ((eW ((ord cut).map mkE)).drop (gp + 1)))) q3 (.lst (eW (((ord cut).take gp ++ (ord cut).drop (gp + 1)).map mkE)))) q3 = some (.lst (eW (((ord cut).take gp ++ (ord cut).drop (gp + 1)).map mkE))) := aup_same
  generalize aup (aup (aup G7 q1 (.lst ((eW ((ord cut).map mkE)).take gp))) q2 (.lst ((eW ((ord cut).map mkE)).drop (gp + 1)))) q3 (.lst (eW (((ord cut).take gp ++ (ord cut).drop (gp + 1)).map mkE))) = G8 at u8 hE8 ⊢
  clear h1 h2 h3 ee
  have u8a : Upto [a] G7 G8 := u8.more (by simp)
  refine a_nil ⟨t, q3, chain, _, rfl, u8a.at1 hT7 hta, hE8, chain_ok, ebound _ (fun k hk => ?_), fun p1 h1 => ?_⟩
  · rcases List.mem_append.mp hk with h | h
    · exact ordlt k (List.mem_of_mem_take h)
    · exact ordlt k (List.mem_of_mem_drop h)
  rw [closed_less hc hg, hfi, gl_rep (by omega)]
  refine q_add (q_mul (q_lst (a_cons (q_int (a_nil fun p2 h2 => ?_)))))
  refine qv 8 rfl ⟨_, aup_same, by omega, by omega, ?_, fun p3 h3 => ?_⟩
  · show 1 * ((fi + 1 : Nat) : Int).toNat ≤ sizeLine
    exact Nat.le_trans (m := 1000) (by omega) (by decide)
  rw [Int.toNat_natCast, rep_flat]
  refine q_mul (q_lst (a_cons (qv 8 rfl (a_nil fun p4 h4 => ?_))))
  refine q_sub (q_int (qv 8 rfl ?_))
  refine sub_int ?_
  rw [show (400 : Int) - ((fi + 1 : Nat) : Int) = ((400 - (fi + 1) : Nat) : Int) by omega]
  refine ⟨_, aup_same, by omega, by omega, ?_, fun p5 h5 => ?_⟩
  · show 1 * ((400 - (fi + 1) : Nat) : Int).toNat ≤ sizeLine
    exact Nat.le_trans (m := 1000) (by omega) (by decide)
  rw [Int.toNat_natCast, rep_flat]
  refine ⟨_, _, aup_new h5 (aup_new h4 aup_same), aup_same, ?_, fun p6 h6 => ?_⟩
  · rw [List.length_replicate, List.length_replicate]
    exact Nat.le_trans (m := 1000) (by omega) (by decide)
  refine fNe_self (List.replicate (fi + 1) 0 ++ List.replicate (400 - (fi + 1)) (fi + 1)) (aup_new h6 (aup_new h5 (aup_new h4 (aup_new h3 (aup_new h2 aup_same))))) (by rw [nW_app, nW_rep, nW_rep]; exact aup_same) ?_
  refine ifF (s_nil ?_)
  have hB8 := hB7.sub u8
  have u9 := ((((((Upto.refl (l := []) (G := G8)).new (o := .lst (nW (List.replicate (fi + 1) 0 ++ List.replicate (400 - (fi + 1)) (fi + 1)))) h1).new (o := .lst [.int 0]) h2).new (o := .lst (List.replicate (fi + 1) (.int 0))) h3).new (o := .lst [.int ((fi + 1 : Nat) : Int)]) h4).new (o := .lst (List.replicate (400 - (fi + 1)) (.int ((fi + 1 : Nat) : Int)))) h5).new (o := .lst (List.replicate (fi + 1) (.int 0) ++ List.replicate (400 - (fi + 1)) (.int ((fi + 1 : Nat) : Int)))) h6
  have hB9 := hB8.sub u9
  have u10 := u8.trans u9
  generalize aup (aup (aup (aup (aup (aup G8 p1 (.lst (nW (List.replicate (fi + 1) 0 ++ List.replicate (400 - (fi + 1)) (fi + 1))))) p2 (.lst [.int 0])) p3 (.lst (List.replicate (fi + 1) (.int 0)))) p4 (.lst [.int ((fi + 1 : Nat) : Int)])) p5 (.lst (List.replicate (400 - (fi + 1)) (.int ((fi + 1 : Nat) : Int))))) p6 (.lst (List.replicate (fi + 1) (.int 0) ++ List.replicate (400 - (fi + 1)) (.int ((fi + 1 : Nat) : Int)))) = G9 at u9 hB9 u10 ⊢
  have u10a : Upto [a] G7 G9 := u10.more (by simp)
  have hT9 := u10a.at1 hT7 hta
  have hE9 := u10a.at1 hE7 hea
  have hS9 := u10a.at1 hS7 hsaa
  have up9 := up7.trans u10a
  clear h1 h2 h3 h4 h5 h6 u9 u10 u10a u8 u8a hB8 hE8 up7 hS7 hT7 hE7 hO7 hB7
  -- its book
  refine s_cons (s_set (i := 9) sc_chain.nd (q_mul (q_int (q_int ⟨mulok (by decide) (by decide), ?_⟩))))
  have eok := es_ok hc
  refine s_cons (s_if (b_isn (q_cal CH hr4 (a_cons (qv 3 rfl (a_cons (qv 5 rfl (a_cons (q_lst (a_cons (q_tup (a_cons (q_int (a_cons (q_int (a_cons (qv 9 rfl (a_cons (qv 6 rfl (a_nil (a_nil fun p1 h1 => ?_)))))))))))))))))))))
  refine a_cons (q_int (a_cons (q_int (a_nil ⟨t, e, p1, chain, _, [chR (399 * 200) (stepsC cut)], _, 0, 399, rfl, aup_new h1 hT9, aup_new h1 hE9, aup_same, .cons ⟨sa, rfl, aup_new h1 hS9⟩ .nil, by show 1 ≤ 10000; decide, chain_ok, eok, ?_⟩))))
  rw [chain_holds hc]
  refine q_bl (ifB_F (by decide) (s_nil ?_))
  -- and without a step it does not hold
  refine s_cons (s_ret (q_not (q_cal CH hr4 (a_cons (qv 3 rfl (a_cons (qv 5 rfl (a_cons (q_lst (a_cons (q_tup (a_cons (q_int (a_cons (q_int (a_cons (qv 9 rfl (a_cons (q_add (q_sl (qv 6 rfl (o_non (o_some (qv 7 rfl ?_))))))))))))))))))))))))
  refine (onI_int (i := (gp : Int)) (k := fun i => fSl (.ref sa) none (some i) (aup G9 p1 _) _) ?_ : _)
  refine ⟨_, aup_new h1 hS9, fun q1 h2 => ?_⟩
  rw [cutW_to, ← List.map_take]
  refine q_sl (qv 6 rfl (o_some (q_add (qv 7 rfl (q_int ?_)))))
  refine (o_non ?_ : OQ _ none _ _ _)
  refine ⟨_, aup_new h2 (aup_new h1 hS9), fun q2 h3 => ?_⟩
  rw [show ((gp : Int) + 1) = ((gp + 1 : Nat) : Int) from rfl, cutW_from, ← List.map_drop]
  refine ⟨_, _, aup_new h3 aup_same, aup_same, ?_, fun q3 h4 => ?_⟩
  · rw [List.length_map, List.length_map, List.length_take, List.length_drop]
    have : (stepsC cut).length = 399 := by simp [stepsC]
    exact Nat.le_trans (m := 1000) (by omega) (by decide)
  rw [← List.map_append]
  refine a_nil (a_nil fun q4 h5 => ?_)
  refine a_cons (q_int (a_cons (q_int (a_nil ⟨t, e, q4, chain, _, [chR (399 * 200) ((stepsC cut).take gp ++ (stepsC cut).drop (gp + 1))], _, 0, 399, rfl, aup_new h5 (aup_new h4 (aup_new h3 (aup_new h2 (aup_new h1 hT9)))), aup_new h5 (aup_new h4 (aup_new h3 (aup_new h2 (aup_new h1 hE9)))), aup_same, .cons ⟨q3, rfl, aup_new h5 aup_same⟩ .nil, by show 1 ≤ 10000; decide, chain_ok, eok, ?_⟩))))
  rw [chain_fails hc hg]
  exact ⟨_, Sub.refl, kk _ (((((up9.new h1).new h2).new h3).new h4).new h5) (((((hB9.new h1).new h2).new h3).new h4).new h5)⟩
end
end SW
namespace SW
open PySem PySem.Spec L2 AL
section
variable {P : Program} {w : World} {K : PySem.W.Frag} {mg : Str → Option Value} {base : Heap}
abbrev sLaw : Stmt := top 20
theorem sc_law : FnScope ["script", "cells", "k", "box"] ["script"] (defScope sLaw) := ⟨rfl, rfl, rfl, by decide +kernel, rfl, by decide +kernel, by decide +kernel⟩
def spLaw (c : Ct) : ASp := fun ws G K _ => ∃ (a : Addr) (ns : List Int), ws = [.ref a] ∧ Scr c G a ns ∧ ns.length ≤ 63 ∧ ∀ G', K (.bl true) G'
theorem ok_law {f : Addr} {fd : FuncData} (F : Fun K "law" "law" sLaw f fd) (B : Bl mg) (CF : Cal P w K mg base "_law_folded" 1 ["script", "many"] (spFold ⟨P, w, K⟩)) (CX : Cal P w K mg base "_law_box" 1 ["script", "k"] spBox) (CT : Cal P w K mg base "_law_take" 1 ["box", "many"] spTake)
    (CC : Cal P w K mg base "_law_chain_right" 5 ["box"] spChain) (CB : Cal P w K mg base "_law_books_right" 5 ["box"] spBooks) : FnOk P w K mg base CX0 6 f fd ["script"] (low ⟨P, w, K⟩ (spLaw ⟨P, w, K⟩)) := by
  refine fnA_of F sc_law (fun ws G Kc KE ⟨a, ns, e, _⟩ => by rw [e]; rfl) fun cdv A outer s H E ws G Kc KE hr ⟨a, ns, e, hA, hn, kk⟩ => ?_
  subst e
  have hr5 : Room 5 _ := hr
  have hr1 : Room 1 _ := hr.mono (by decide)
  refine s_cons (s_set (i := 1) sc_law.nd (q_cal CF hr1 (a_cons (qv 0 rfl (a_cons (q_int (a_nil ⟨a, ns, 2, rfl, hA, by decide, by decide, hn, fun c ms hc hl => ?_⟩)))))))
  have hC : (aup G c (.lst (ms.map W.int))) c = some (.lst (ms.map W.int)) := aup_same
  generalize aup G c (.lst (ms.map W.int)) = G1 at hC ⊢
  have hml : ms.length ≤ 63 := by omega
  refine s_cons (s_for PassesOwn.never rfl (i_range1 rfl B.range (q_len B.len (a_cons (qv 1 rfl (a_nil ⟨_, hC, ?_⟩)))) rfl))
  rw [List.length_map]
  refine ⟨by omega, by omega, fun i ρ' G' => ∃ v v', ρ' = [some (.ref a), some (.ref c), v, v'] ∧ G' c = some (.lst (ms.map W.int)), ⟨none, none, rfl, hC⟩, fun _ _ _ _ _ => trivial, fun i x ρ' G' hx ⟨v, v', e1, hC'⟩ => ?_, fun ρ' G' ⟨v, v', e1, hC'⟩ => ?_⟩
  · obtain ⟨hi, rfl⟩ := rng0_item hx
    have hi : i < ms.length := by simpa using hi
    subst e1
    refine g_name (i := 2) sc_law.nd ?_
    refine s_cons (s_set (i := 3) sc_law.nd (q_cal CX hr1 (a_cons (qv 1 rfl (a_cons (qv 2 rfl (a_nil ⟨c, ms, i, rfl, hC', by omega, fun p bx hp hbx => ?_⟩)))))))
    have hcp : c ≠ p := ane_none hC' hp
    have hC2 := aup_new (u := .lst bx) hp hC'
    have hB2 : BoxAt (aup G' p (.lst bx)) p (999000 + 1000) := ⟨bx, aup_same, hbx⟩
    generalize aup G' p (.lst bx) = G2 at hC2 hB2 ⊢
    refine SQ.st [some (.ref a), some (.ref c), some (.int i), some (.ref p)] rfl ?_
    refine s_cons (s_cut (P := fun ρ3 G3 => ρ3 = [some (.ref a), some (.ref c), some (.int i), some (.ref p)] ∧ G3 c = some (.lst (ms.map W.int)) ∧ BoxAt G3 p (900000 + 100)) ?_ ?_)
    · refine s_if (WQ.test (w_and (b_eq (u64 hr) (qv 2 rfl (q_int ?_)))))
      refine ifB_dec (fun h => ?_) (fun h => ?_)
      · refine w_and (b_eq (u64 hr) (q_cal CT hr1 (a_cons (qv 3 rfl (a_cons (q_int (a_nil ⟨p, 999999, 16, rfl, hB2, by decide, by decide, fun r G3 r0 r1 off hB3 => ?_⟩)))))))
        have hC3 := (Upto.off off).at1 hC2 hcp
        refine q_int ?_
        refine ifB_dec (fun h2 => ?_) (fun h2 => ?_)
        · refine w_and1 (b_not (b_val (q_cal CC hr5 (a_cons (qv 3 rfl (a_nil ⟨p, 999997, rfl, hB3, fun G4 u4 hB4 => ?_⟩))))))
          exact ifF (s_nil ⟨rfl, u4.at1 hC3 hcp, hB4.less (by decide)⟩)
        · exact ifF (s_nil ⟨rfl, hC3, hB3.less (by decide)⟩)
      · exact ifF (s_nil ⟨rfl, hC2, hB2.less (by decide)⟩)
    rintro _ G3 ⟨rfl, hC3, hB3⟩
    refine s_cons (s_if (b_not (b_val (q_cal CB hr5 (a_cons (qv 3 rfl (a_nil ⟨p, 900000, rfl, hB3, fun G4 u4 hB4 => ?_⟩)))))))
    exact ifF (s_nil (s_nil ⟨_, _, rfl, u4.at1 hC3 hcp⟩))
  · subst e1
    exact s_cons (s_ret (q_bl ⟨_, Sub.refl, kk _⟩))
end
/-! ### the end -/
theorem law_low {c : Ct} {H : Hp} {a : Addr} {ns : List Int} (hn : ns.length ≤ 63) (hO : Only H) (hS : SqL c.K H a (ns.map V.int)) : low c (spLaw c) [.ref a] H (fun v _ => v = .bl true) fun _ _ _ => False := by
  have fin : ∀ G : AH, RG c H G → Scr c G a ns → low c (spLaw c) [.ref a] H (fun v _ => v = .bl true) fun _ _ _ => False := fun G g s =>
    ⟨[.ref a], G, fun w _ => w = .bl true, noE, .cons (show RV H (.ref a) (.ref a) from rfl) RVs.nil, g, ⟨a, ns, rfl, s, hn, fun _ => rfl⟩, fun v H' ⟨w, G', _, r, _, e⟩ => by subst e; exact r, fun _ _ _ ⟨_, _, _, z⟩ => z⟩
  rcases hS with h | h
  · refine fin (fun b => if b = a then some (.fro (ns.map W.int)) else none) (fun b o e => ?_) (.inl (if_pos rfl))
    have e : (if b = a then some (AO.fro (ns.map W.int)) else none) = some o := e
    by_cases q : b = a
    · subst q
      rw [if_pos rfl] at e
      cases e
      exact ⟨_, h, RVs.ints ns⟩
    · rw [if_neg q] at e; cases e
  · exact fin (fun _ => none) (fun _ _ e => by cases e) (.inr fun _ => .inr h)
end SW
namespace SW
open PySem PySem.Spec L2 AL
theorem all_mk {l : PySem.W.OpenLaw} {w : World} {K : PySem.W.Frag} {h : Heap} {mg : Str → Option Value} {fa f0 f1 f2 f3 f4 f5 f6 f7 f8 f9 f10 f11 f12 f13 f14 f15 f16 : Addr} (X : K.In h) (G : h.Ns mainGlobals mg) (hfa : mg "law" = some (.ref fa))
    {od0 an0 od1 an1 od2 an2 od3 an3 od4 an4 od5 an5 od6 an6 od7 an7 od8 an8 od9 an9 od10 an10 od11 an11 od12 an12 od13 an13 od14 an14 od15 an15 od16 an16 : Option Addr} {sl0 sl1 sl2 sl3 sl4 sl5 sl6 sl7 sl8 sl9 sl10 sl11 sl12 sl13 sl14 sl15 sl16 : Array (Option Value)} {oc0 kV0 dc0 pm0 cd0 ct0 oc1 kV1 dc1 pm1 cd1 ct1 oc2 kV2 dc2 pm2 cd2 ct2 oc3 kV3 dc3 pm3 cd3 ct3 oc4 kV4 dc4 pm4 cd4 ct4 oc5 kV5 dc5 pm5 cd5 ct5 oc6 kV6 dc6 pm6 cd6 ct6 oc7 kV7 dc7 pm7 cd7 ct7 oc8 kV8 dc8 pm8 cd8 ct8 oc9 kV9 dc9 pm9 cd9 ct9 oc10 kV10 dc10 pm10 cd10 ct10 oc11 kV11 dc11 pm11 cd11 ct11 oc12 kV12 dc12 pm12 cd12 ct12 oc13 kV13 dc13 pm13 cd13 ct13 oc14 kV14 dc14 pm14 cd14 ct14 oc15 kV15 dc15 pm15 cd15 ct15 oc16 kV16 dc16 pm16 cd16 ct16 : Value}
    (a0 : PySem.W.nsIn K mainGlobals "alike" = some (some (.ref f0))) (l0 : K.lookup f0 = some ⟨oc0, od0, .func (PySem.W.fnOf "alike" "alike" (defArgs sAlike) (defBody sAlike) (defScope sAlike) .none kV0 dc0 pm0 an0 cd0 ct0), sl0⟩) (c0 : PySem.W.codeIn K cd0 "alike" = true) (k0 : PySem.W.keepIn K (.ref f0) = true)
    (a1 : PySem.W.nsIn K mainGlobals "edge_walked" = some (some (.ref f1))) (l1 : K.lookup f1 = some ⟨oc1, od1, .func (PySem.W.fnOf "edge_walked" "edge_walked" (defArgs sEw) (defBody sEw) (defScope sEw) .none kV1 dc1 pm1 an1 cd1 ct1), sl1⟩) (c1 : PySem.W.codeIn K cd1 "edge_walked" = true) (k1 : PySem.W.keepIn K (.ref f1) = true)
    (a2 : PySem.W.nsIn K mainGlobals "like_walked" = some (some (.ref f2))) (l2 : K.lookup f2 = some ⟨oc2, od2, .func (PySem.W.fnOf "like_walked" "like_walked" (defArgs sLw) (defBody sLw) (defScope sLw) .none kV2 dc2 pm2 an2 cd2 ct2), sl2⟩) (c2 : PySem.W.codeIn K cd2 "like_walked" = true) (k2 : PySem.W.keepIn K (.ref f2) = true)
    (a3 : PySem.W.nsIn K mainGlobals "row_walked" = some (some (.ref f3))) (l3 : K.lookup f3 = some ⟨oc3, od3, .func (PySem.W.fnOf "row_walked" "row_walked" (defArgs sRw) (defBody sRw) (defScope sRw) .none kV3 dc3 pm3 an3 cd3 ct3), sl3⟩) (c3 : PySem.W.codeIn K cd3 "row_walked" = true) (k3 : PySem.W.keepIn K (.ref f3) = true)
    (a4 : PySem.W.nsIn K mainGlobals "holds" = some (some (.ref f4))) (l4 : K.lookup f4 = some ⟨oc4, od4, .func (PySem.W.fnOf "holds" "holds" (defArgs sHd) (defBody sHd) (defScope sHd) .none kV4 dc4 pm4 an4 cd4 ct4), sl4⟩) (c4 : PySem.W.codeIn K cd4 "holds" = true) (k4 : PySem.W.keepIn K (.ref f4) = true)
    (a5 : PySem.W.nsIn K mainGlobals "mark" = some (some (.ref f5))) (l5 : K.lookup f5 = some ⟨oc5, od5, .func (PySem.W.fnOf "mark" "mark" (defArgs sMark) (defBody sMark) (defScope sMark) .none kV5 dc5 pm5 an5 cd5 ct5), sl5⟩) (c5 : PySem.W.codeIn K cd5 "mark" = true) (k5 : PySem.W.keepIn K (.ref f5) = true)
    (a6 : PySem.W.nsIn K mainGlobals "unite" = some (some (.ref f6))) (l6 : K.lookup f6 = some ⟨oc6, od6, .func (PySem.W.fnOf "unite" "unite" (defArgs sUnite) (defBody sUnite) (defScope sUnite) .none kV6 dc6 pm6 an6 cd6 ct6), sl6⟩) (c6 : PySem.W.codeIn K cd6 "unite" = true) (k6 : PySem.W.keepIn K (.ref f6) = true)
    (a7 : PySem.W.nsIn K mainGlobals "unite_like" = some (some (.ref f7))) (l7 : K.lookup f7 = some ⟨oc7, od7, .func (PySem.W.fnOf "unite_like" "unite_like" (defArgs sUl) (defBody sUl) (defScope sUl) .none kV7 dc7 pm7 an7 cd7 ct7), sl7⟩) (c7 : PySem.W.codeIn K cd7 "unite_like" = true) (k7 : PySem.W.keepIn K (.ref f7) = true)
    (a8 : PySem.W.nsIn K mainGlobals "closed" = some (some (.ref f8))) (l8 : K.lookup f8 = some ⟨oc8, od8, .func (PySem.W.fnOf "closed" "closed" (defArgs sClosed) (defBody sClosed) (defScope sClosed) .none kV8 dc8 pm8 an8 cd8 ct8), sl8⟩) (c8 : PySem.W.codeIn K cd8 "closed" = true) (k8 : PySem.W.keepIn K (.ref f8) = true)
    (a9 : PySem.W.nsIn K mainGlobals "_law_box" = some (some (.ref f9))) (l9 : K.lookup f9 = some ⟨oc9, od9, .func (PySem.W.fnOf "_law_box" "_law_box" (defArgs sBox) (defBody sBox) (defScope sBox) .none kV9 dc9 pm9 an9 cd9 ct9), sl9⟩) (c9 : PySem.W.codeIn K cd9 "_law_box" = true) (k9 : PySem.W.keepIn K (.ref f9) = true)
    (a10 : PySem.W.nsIn K mainGlobals "_law_take" = some (some (.ref f10))) (l10 : K.lookup f10 = some ⟨oc10, od10, .func (PySem.W.fnOf "_law_take" "_law_take" (defArgs sTake) (defBody sTake) (defScope sTake) .none kV10 dc10 pm10 an10 cd10 ct10), sl10⟩) (c10 : PySem.W.codeIn K cd10 "_law_take" = true) (k10 : PySem.W.keepIn K (.ref f10) = true)
    (a11 : PySem.W.nsIn K mainGlobals "_law_folded" = some (some (.ref f11))) (l11 : K.lookup f11 = some ⟨oc11, od11, .func (PySem.W.fnOf "_law_folded" "_law_folded" (defArgs sFold) (defBody sFold) (defScope sFold) .none kV11 dc11 pm11 an11 cd11 ct11), sl11⟩) (c11 : PySem.W.codeIn K cd11 "_law_folded" = true) (k11 : PySem.W.keepIn K (.ref f11) = true)
    (a12 : PySem.W.nsIn K mainGlobals "_law_case" = some (some (.ref f12))) (l12 : K.lookup f12 = some ⟨oc12, od12, .func (PySem.W.fnOf "_law_case" "_law_case" (defArgs sCase) (defBody sCase) (defScope sCase) .none kV12 dc12 pm12 an12 cd12 ct12), sl12⟩) (c12 : PySem.W.codeIn K cd12 "_law_case" = true) (k12 : PySem.W.keepIn K (.ref f12) = true)
    (a13 : PySem.W.nsIn K mainGlobals "_law_way" = some (some (.ref f13))) (l13 : K.lookup f13 = some ⟨oc13, od13, .func (PySem.W.fnOf "_law_way" "_law_way" (defArgs sWay) (defBody sWay) (defScope sWay) .none kV13 dc13 pm13 an13 cd13 ct13), sl13⟩) (c13 : PySem.W.codeIn K cd13 "_law_way" = true) (k13 : PySem.W.keepIn K (.ref f13) = true)
    (a14 : PySem.W.nsIn K mainGlobals "_law_books_right" = some (some (.ref f14))) (l14 : K.lookup f14 = some ⟨oc14, od14, .func (PySem.W.fnOf "_law_books_right" "_law_books_right" (defArgs sBooks) (defBody sBooks) (defScope sBooks) .none kV14 dc14 pm14 an14 cd14 ct14), sl14⟩) (c14 : PySem.W.codeIn K cd14 "_law_books_right" = true) (k14 : PySem.W.keepIn K (.ref f14) = true)
    (a15 : PySem.W.nsIn K mainGlobals "_law_chain_right" = some (some (.ref f15))) (l15 : K.lookup f15 = some ⟨oc15, od15, .func (PySem.W.fnOf "_law_chain_right" "_law_chain_right" (defArgs sChain) (defBody sChain) (defScope sChain) .none kV15 dc15 pm15 an15 cd15 ct15), sl15⟩) (c15 : PySem.W.codeIn K cd15 "_law_chain_right" = true) (k15 : PySem.W.keepIn K (.ref f15) = true)
    (a16 : PySem.W.nsIn K mainGlobals "law" = some (some (.ref f16))) (l16 : K.lookup f16 = some ⟨oc16, od16, .func (PySem.W.fnOf "law" "law" (defArgs sLaw) (defBody sLaw) (defScope sLaw) .none kV16 dc16 pm16 an16 cd16 ct16), sl16⟩) (c16 : PySem.W.codeIn K cd16 "law" = true) (k16 : PySem.W.keepIn K (.ref f16) = true)
    (z_len : PySem.W.nsIn K mainGlobals "len" = some none)
    (z_min : PySem.W.nsIn K mainGlobals "min" = some none)
    (z_max : PySem.W.nsIn K mainGlobals "max" = some none)
    (z_range : PySem.W.nsIn K mainGlobals "range" = some none)
    (z_list : PySem.W.nsIn K mainGlobals "list" = some none)
    (z_tuple : PySem.W.nsIn K mainGlobals "tuple" = some none)
    (z_zip : PySem.W.nsIn K mainGlobals "zip" = some none)
    (z_abs : PySem.W.nsIn K mainGlobals "abs" = some none)
    (z_int : PySem.W.nsIn K mainGlobals "int" = some none)
    (z_divmod : PySem.W.nsIn K mainGlobals "divmod" = some none)
    (z_enumerate : PySem.W.nsIn K mainGlobals "enumerate" = some none)
    (z_any : PySem.W.nsIn K mainGlobals "any" = some none)
    : ∃ fd : FuncData, (∀ (s : Shared) (v : Value), BindsTo s fd ⟨[v], []⟩ [("script", v)]) ∧ ∀ base : Heap, K.In base → base.Ns mainGlobals mg → FnOk l.prog w K mg base CX0 6 fa fd ["script"] (low ⟨l.prog, w, K⟩ (spLaw ⟨l.prog, w, K⟩)) := by
  have e := hfa.symm.trans (PySem.W.mg_of X G a16)
  cases e
  have B : Bl mg := ⟨PySem.W.mg_none_of X G z_len, PySem.W.mg_none_of X G z_min, PySem.W.mg_none_of X G z_max, PySem.W.mg_none_of X G z_range, PySem.W.mg_none_of X G z_list, PySem.W.mg_none_of X G z_tuple, PySem.W.mg_none_of X G z_zip, PySem.W.mg_none_of X G z_abs, PySem.W.mg_none_of X G z_int, PySem.W.mg_none_of X G z_divmod, PySem.W.mg_none_of X G z_enumerate, PySem.W.mg_none_of X G z_any⟩
  refine ⟨PySem.W.fnOf "law" "law" (defArgs sLaw) (defBody sLaw) (defScope sLaw) .none kV16 dc16 pm16 an16 cd16 ct16, fun s v => .of_eq rfl, fun base _ _ => ?_⟩
  have F0 := fun_mk (st := sAlike) l0 c0 k0
  have b0 := F0.binds (ps := ["one", "other"]) fun _ _ _ _ _ _ us hl => match us, hl with | [_, _], _ => rfl
  have C0 : Cal l.prog w K mg base "alike" 1 ["one", "other"] (spAlike) := ⟨⟨_, _, ok_alike F0 B, PySem.W.mg_of X G a0, k0, b0⟩⟩
  have F1 := fun_mk (st := sEw) l1 c1 k1
  have b1 := F1.binds (ps := ["edges", "step"]) fun _ _ _ _ _ _ us hl => match us, hl with | [_, _], _ => rfl
  have C1 : Cal l.prog w K mg base "edge_walked" 1 ["edges", "step"] (spEw) := ⟨⟨_, _, ok_ew F1 B, PySem.W.mg_of X G a1, k1, b1⟩⟩
  have F2 := fun_mk (st := sLw) l2 c2 k2
  have b2 := F2.binds (ps := ["terms", "above", "step"]) fun _ _ _ _ _ _ us hl => match us, hl with | [_, _, _], _ => rfl
  have C2 : Cal l.prog w K mg base "like_walked" 2 ["terms", "above", "step"] (spLw) := ⟨⟨_, _, ok_lw F2 B C0, PySem.W.mg_of X G a2, k2, b2⟩⟩
  have F3 := fun_mk (st := sRw) l3 c3 k3
  have b3 := F3.binds (ps := ["terms", "edges", "above", "row"]) fun _ _ _ _ _ _ us hl => match us, hl with | [_, _, _, _], _ => rfl
  have C3 : Cal l.prog w K mg base "row_walked" 3 ["terms", "edges", "above", "row"] (spRw) := ⟨⟨_, _, ok_rw F3 B C1 C2, PySem.W.mg_of X G a3, k3, b3⟩⟩
  have F4 := fun_mk (st := sHd) l4 c4 k4
  have b4 := F4.binds (ps := ["terms", "edges", "book", "a", "b"]) fun _ _ _ _ _ _ us hl => match us, hl with | [_, _, _, _, _], _ => rfl
  have C4 : Cal l.prog w K mg base "holds" 4 ["terms", "edges", "book", "a", "b"] (spHd) := ⟨⟨_, _, ok_hd F4 B C3, PySem.W.mg_of X G a4, k4, b4⟩⟩
  have F5 := fun_mk (st := sMark) l5 c5 k5
  have b5 := F5.binds (ps := ["term", "leads"]) fun _ _ _ _ _ _ us hl => match us, hl with | [_, _], _ => rfl
  have C5 : Cal l.prog w K mg base "mark" 1 ["term", "leads"] (spMark) := ⟨⟨_, _, ok_mark F5 B, PySem.W.mg_of X G a5, k5, b5⟩⟩
  have F6 := fun_mk (st := sUnite) l6 c6 k6
  have b6 := F6.binds (ps := ["leads", "one", "other"]) fun _ _ _ _ _ _ us hl => match us, hl with | [_, _, _], _ => rfl
  have C6 : Cal l.prog w K mg base "unite" 1 ["leads", "one", "other"] (spUnite) := ⟨⟨_, _, ok_unite F6 B, PySem.W.mg_of X G a6, k6, b6⟩⟩
  have F7 := fun_mk (st := sUl) l7 c7 k7
  have b7 := F7.binds (ps := ["terms", "leads"]) fun _ _ _ _ _ _ us hl => match us, hl with | [_, _], _ => rfl
  have C7 : Cal l.prog w K mg base "unite_like" 2 ["terms", "leads"] (spUl) := ⟨⟨_, _, ok_ul F7 B C5 C6, PySem.W.mg_of X G a7, k7, b7⟩⟩
  have F8 := fun_mk (st := sClosed) l8 c8 k8
  have b8 := F8.binds (ps := ["terms", "edges"]) fun _ _ _ _ _ _ us hl => match us, hl with | [_, _], _ => rfl
  have C8 : Cal l.prog w K mg base "closed" 3 ["terms", "edges"] (spClosed) := ⟨⟨_, _, ok_closed F8 B C6 C7, PySem.W.mg_of X G a8, k8, b8⟩⟩
  have F9 := fun_mk (st := sBox) l9 c9 k9
  have b9 := F9.binds (ps := ["script", "k"]) fun _ _ _ _ _ _ us hl => match us, hl with | [_, _], _ => rfl
  have C9 : Cal l.prog w K mg base "_law_box" 1 ["script", "k"] (spBox) := ⟨⟨_, _, ok_box F9 B, PySem.W.mg_of X G a9, k9, b9⟩⟩
  have F10 := fun_mk (st := sTake) l10 c10 k10
  have b10 := F10.binds (ps := ["box", "many"]) fun _ _ _ _ _ _ us hl => match us, hl with | [_, _], _ => rfl
  have C10 : Cal l.prog w K mg base "_law_take" 1 ["box", "many"] (spTake) := ⟨⟨_, _, ok_take F10 B, PySem.W.mg_of X G a10, k10, b10⟩⟩
  have F11 := fun_mk (st := sFold) l11 c11 k11
  have b11 := F11.binds (ps := ["script", "many"]) fun _ _ _ _ _ _ us hl => match us, hl with | [_, _], _ => rfl
  have C11 : Cal l.prog w K mg base "_law_folded" 1 ["script", "many"] (spFold ⟨l.prog, w, K⟩) := ⟨⟨_, _, ok_fold F11 B, PySem.W.mg_of X G a11, k11, b11⟩⟩
  have F12 := fun_mk (st := sCase) l12 c12 k12
  have b12 := F12.binds (ps := ["box"]) fun _ _ _ _ _ _ us hl => match us, hl with | [_], _ => rfl
  have C12 : Cal l.prog w K mg base "_law_case" 2 ["box"] (spCase) := ⟨⟨_, _, ok_case F12 B C10, PySem.W.mg_of X G a12, k12, b12⟩⟩
  have F13 := fun_mk (st := sWay) l13 c13 k13
  have b13 := F13.binds (ps := ["edges", "a", "b"]) fun _ _ _ _ _ _ us hl => match us, hl with | [_, _, _], _ => rfl
  have C13 : Cal l.prog w K mg base "_law_way" 1 ["edges", "a", "b"] (spWay) := ⟨⟨_, _, ok_way F13 B, PySem.W.mg_of X G a13, k13, b13⟩⟩
  have F14 := fun_mk (st := sBooks) l14 c14 k14
  have b14 := F14.binds (ps := ["box"]) fun _ _ _ _ _ _ us hl => match us, hl with | [_], _ => rfl
  have C14 : Cal l.prog w K mg base "_law_books_right" 5 ["box"] (spBooks) := ⟨⟨_, _, ok_books F14 B C10 C12 C13 C4, PySem.W.mg_of X G a14, k14, b14⟩⟩
  have F15 := fun_mk (st := sChain) l15 c15 k15
  have b15 := F15.binds (ps := ["box"]) fun _ _ _ _ _ _ us hl => match us, hl with | [_], _ => rfl
  have C15 : Cal l.prog w K mg base "_law_chain_right" 5 ["box"] (spChain) := ⟨⟨_, _, ok_chain F15 B C10 C8 C4, PySem.W.mg_of X G a15, k15, b15⟩⟩
  have F16 := fun_mk (st := sLaw) l16 c16 k16
  exact ok_law F16 B C11 C9 C10 C15 C14
theorem walk {l : PySem.W.OpenLaw} {q : Program} {loose : List Str} {XP : (Str → Option Value) → Heap → Prop} {YP : World → Heap → Prop} {d : DefRec} {K : Params → PySem.W.Frag} (hn : l.most = some 63) (hdf : d.params.defaults = [])
    (hY : ∀ (w : World) (h : Heap), YP w h → (K w.params).In h)
    (F : ∀ (w : World) (mg : Str → Option Value) (fa : Addr) (h : Heap), (K w.params).In h → h.Ns mainGlobals mg → mg d.name = some (.ref fa) →
      ∃ fd : FuncData, (∀ (s : Shared) (u : Value), BindsTo s fd ⟨[u], []⟩ [("script", u)]) ∧ ∀ base : Heap, (K w.params).In base → base.Ns mainGlobals mg → FnOk l.prog w (K w.params) mg base CX0 6 fa fd ["script"] (low ⟨l.prog, w, K w.params⟩ (spLaw ⟨l.prog, w, K w.params⟩))) :
    PySem.W.WalkO q loose XP YP l.row.toRowW d [] (fun f vs => PySem.call f vs) :=
  L2.walk_of (n := 63) (k := 6) (x := "script") (CX := fun _ => CX0) (sp := fun w => low ⟨l.prog, w, K w.params⟩ (spLaw ⟨l.prog, w, K w.params⟩)) hn (by decide) hdf ⟨rfl, by decide, by decide⟩ hY F (fun _ _ _ _ hl hO hS => law_low hl hO hS) fun _ _ _ _ _ z => z
end SW
open PySem PySem.W PyProof.Rows in
set_option maxRecDepth 100000 in
set_option maxHeartbeats 0 in
theorem PySem.Challenge.cw_samewise_k91_alike_numbers_and_long_rows_holds : PySem.Challenge.rw_samewise_k91_alike_numbers_and_long_rows.Holds := by
  w_on; o_law; k_head; (case hw => w_witness2)
  k_fill
  refine SW.walk (l := PySem.Challenge.rw_samewise_k91_alike_numbers_and_long_rows) rfl rfl (fun w h Y => PySem.W.kIn_of Y) ?F
  case F =>
    intro w mg fa h KX G hmg
    refine' SW.all_mk KX G hmg ?a0 ?l0 ?c0 ?k0 ?a1 ?l1 ?c1 ?k1 ?a2 ?l2 ?c2 ?k2 ?a3 ?l3 ?c3 ?k3 ?a4 ?l4 ?c4 ?k4 ?a5 ?l5 ?c5 ?k5 ?a6 ?l6 ?c6 ?k6 ?a7 ?l7 ?c7 ?k7 ?a8 ?l8 ?c8 ?k8 ?a9 ?l9 ?c9 ?k9 ?a10 ?l10 ?c10 ?k10 ?a11 ?l11 ?c11 ?k11 ?a12 ?l12 ?c12 ?k12 ?a13 ?l13 ?c13 ?k13 ?a14 ?l14 ?c14 ?k14 ?a15 ?l15 ?c15 ?k15 ?a16 ?l16 ?c16 ?k16 ?z_len ?z_min ?z_max ?z_range ?z_list ?z_tuple ?z_zip ?z_abs ?z_int ?z_divmod ?z_enumerate ?z_any
    (case a0 => k_is)
    (case l0 => k_is)
    (case c0 => k_is)
    (case k0 => k_is)
    (case a1 => k_is)
    (case l1 => k_is)
    (case c1 => k_is)
    (case k1 => k_is)
    (case a2 => k_is)
    (case l2 => k_is)
    (case c2 => k_is)
    (case k2 => k_is)
    (case a3 => k_is)
    (case l3 => k_is)
    (case c3 => k_is)
    (case k3 => k_is)
    (case a4 => k_is)
    (case l4 => k_is)
    (case c4 => k_is)
    (case k4 => k_is)
    (case a5 => k_is)
    (case l5 => k_is)
    (case c5 => k_is)
    (case k5 => k_is)
    (case a6 => k_is)
    (case l6 => k_is)
    (case c6 => k_is)
    (case k6 => k_is)
    (case a7 => k_is)
    (case l7 => k_is)
    (case c7 => k_is)
    (case k7 => k_is)
    (case a8 => k_is)
    (case l8 => k_is)
    (case c8 => k_is)
    (case k8 => k_is)
    (case a9 => k_is)
    (case l9 => k_is)
    (case c9 => k_is)
    (case k9 => k_is)
    (case a10 => k_is)
    (case l10 => k_is)
    (case c10 => k_is)
    (case k10 => k_is)
    (case a11 => k_is)
    (case l11 => k_is)
    (case c11 => k_is)
    (case k11 => k_is)
    (case a12 => k_is)
    (case l12 => k_is)
    (case c12 => k_is)
    (case k12 => k_is)
    (case a13 => k_is)
    (case l13 => k_is)
    (case c13 => k_is)
    (case k13 => k_is)
    (case a14 => k_is)
    (case l14 => k_is)
    (case c14 => k_is)
    (case k14 => k_is)
    (case a15 => k_is)
    (case l15 => k_is)
    (case c15 => k_is)
    (case k15 => k_is)
    (case a16 => k_is)
    (case l16 => k_is)
    (case c16 => k_is)
    (case k16 => k_is)
    (case z_len => k_is)
    (case z_min => k_is)
    (case z_max => k_is)
    (case z_range => k_is)
    (case z_list => k_is)
    (case z_tuple => k_is)
    (case z_zip => k_is)
    (case z_abs => k_is)
    (case z_int => k_is)
    (case z_divmod => k_is)
    (case z_enumerate => k_is)
    (case z_any => k_is)
