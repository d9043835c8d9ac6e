import PyProof.Rows.All
import HandS.ClsMeth
import HandS.Conv
import HandS.Deep
import HandS.EndBits
import HandS.ExcIs
import HandS.ExcOwn
import HandS.Flow
import HandS.ForMost
import HandS.IsInst
import HandS.Iter
import HandS.ListItems
import HandS.More
import HandS.SetFor
import HandS.SetKeys
import HandS.Small
import HandS.SortInts
import HandS.SortKw
import HandS.Style
import HandS.Text
import HandS.TryMany
import HandS.TryOnly
import HandS.TupAny
import HandS.Wide
import HandS.WideBits
import HandS.WordsDict
import HandS.WordsExc
import HandS.Zip
import KE.DataMinMax
import KE.GoesEnum
import KE.GoesMore
import KE.GoesZip
import KE.IntBitsLaws
import KE.KDictCopyH
import KE.KDictKeyed
import KE.KDictList
import KE.KDictWalk
import KE.KEqDict
import KE.KeyNested
import KE.SortKeyHeap
import OpenK.AllK
import PyProof.ReprLen
import PyProof.ReprRoads
import PyProof.Rows.BitMore
import PyProof.TupleOfSeq
import Wide.All
import Wide.FinOn
import PySem.Challenge.RW_samewise_k85_whole_names_in_a_row
set_option Elab.async false
set_option linter.all false
set_option maxRecDepth 100000
set_option autoImplicit false
namespace AL
open PySem PySem.Spec L2
open PyProof.Rows hiding St

/-! ### values with their tuples in them -/
inductive W where
  | non | bl (b : Bool) | int (i : Int) | str (x : Str) | ref (a : Addr) | tup (xs : List W) | lst (xs : List W) | ty (n : String)

mutual
def RV (H : Hp) : W → V → Prop
  | .non, v => v = .non
  | .bl b, v => v = .bl b
  | .int i, v => v = .int i
  | .str x, v => v = .str x
  | .ref a, v => v = .ref a
  | .ty n, v => v = .ty n
  | .tup ws, v => ∃ a vs, v = .ref a ∧ H a = some (.tup vs) ∧ RVs H ws vs
  | .lst ws, v => ∃ a vs, v = .ref a ∧ (∃ o, H a = some (.frz o (.lst vs))) ∧ RVs H ws vs
def RVs (H : Hp) : List W → List V → Prop
  | [], vs => vs = []
  | w :: ws, vs => ∃ v r, vs = v :: r ∧ RV H w v ∧ RVs H ws r
end
/-- tuples and frozen things are kept -/
structure Keep (H H' : Hp) : Prop where
  t : ∀ a vs, H a = some (.tup vs) → H' a = some (.tup vs)
  f : ∀ a o u, H a = some (.frz o u) → H' a = some (.frz o u)
theorem Keep.refl {H : Hp} : Keep H H := ⟨fun _ _ h => h, fun _ _ _ h => h⟩
theorem Keep.trans {H H1 H2 : Hp} (a : Keep H H1) (b : Keep H1 H2) : Keep H H2 := ⟨fun x v h => b.t x v (a.t x v h), fun x o v h => b.f x o v (a.f x o v h)⟩
theorem Keep.same {H H' : Hp} (h : Same H H') : Keep H H' := ⟨fun a vs e => h a _ e, fun a o vs e => h a _ e⟩
theorem Same.new {H : Hp} {p : Addr} {o : HO} (h : H p = none) : Same H (upd H p o) := fun b u e => by
  rw [upd_ne (ne_of_none e h)]; exact e
theorem Keep.new {H : Hp} {p : Addr} {o : HO} (h : H p = none) : Keep H (upd H p o) := .same (Same.new h)
theorem Keep.mut {H : Hp} {p : Addr} {o u : HO} (h : H p = some u) (n : Mut (some u)) : Keep H (upd H p o) := ⟨fun a vs e => by
  by_cases q : a = p
  · subst q; rw [h] at e; cases e; exact n.elim
  · rw [upd_ne q]; exact e, fun a ob vs e => by
  by_cases q : a = p
  · subst q; rw [h] at e; cases e; exact n.elim
  · rw [upd_ne q]; exact e⟩
mutual
theorem RV.keep {H H' : Hp} (k : Keep H H') : ∀ (w : W) (v : V), RV H w v → RV H' w v
  | .non, _, h => h
  | .bl _, _, h => h
  | .int _, _, h => h
  | .str _, _, h => h
  | .ref _, _, h => h
  | .ty _, _, h => h
  | .tup ws, _, ⟨a, vs, e, h, r⟩ => ⟨a, vs, e, k.t _ _ h, RVs.keep k ws vs r⟩
  | .lst ws, _, ⟨a, vs, e, ⟨o, h⟩, r⟩ => ⟨a, vs, e, ⟨o, k.f _ _ _ h⟩, RVs.keep k ws vs r⟩
theorem RVs.keep {H H' : Hp} (k : Keep H H') : ∀ (ws : List W) (vs : List V), RVs H ws vs → RVs H' ws vs
  | [], _, h => h
  | w :: ws, _, ⟨v, r, e, h, t⟩ => ⟨v, r, e, RV.keep k w v h, RVs.keep k ws r t⟩
end
theorem RV.mono {H H' : Hp} {w : W} {v : V} (h : RV H w v) (k : Keep H H') : RV H' w v := RV.keep k w v h
theorem RVs.mono {H H' : Hp} {w : List W} {v : List V} (h : RVs H w v) (k : Keep H H') : RVs H' w v := RVs.keep k w v h
theorem RVs.nil {H : Hp} : RVs H [] [] := rfl
theorem RVs.cons {H : Hp} {w : W} {v : V} {ws : List W} {vs : List V} (h : RV H w v) (t : RVs H ws vs) : RVs H (w :: ws) (v :: vs) := ⟨v, vs, rfl, h, t⟩
theorem RVs.length {H : Hp} : ∀ {ws : List W} {vs : List V}, RVs H ws vs → ws.length = vs.length
  | [], vs, h => by have e : vs = [] := h; rw [e]; rfl
  | _ :: _, _, ⟨_, _, e, _, t⟩ => by rw [e, List.length_cons, List.length_cons, RVs.length t]
theorem RVs.get {H : Hp} : ∀ {ws : List W} {vs : List V} {i : Nat} {w : W}, RVs H ws vs → ws[i]? = some w → ∃ v, vs[i]? = some v ∧ RV H w v
  | [], _, _, _, _, e => by simp at e
  | _ :: _, _, 0, _, ⟨v, r, e, h, t⟩, q => by
    simp at q; subst q; subst e; exact ⟨v, rfl, h⟩
  | _ :: _, _, i + 1, _, ⟨v, r, e, h, t⟩, q => by
    subst e
    obtain ⟨v', h1, h2⟩ := RVs.get (i := i) t (by simpa using q)
    exact ⟨v', by simpa using h1, h2⟩
theorem RVs.back {H : Hp} : ∀ {ws : List W} {vs : List V} {i : Nat} {v : V}, RVs H ws vs → vs[i]? = some v → ∃ w, ws[i]? = some w ∧ RV H w v
  | [], _, _, _, h, e => by rw [show _ = [] from h] at e; simp at e
  | w :: _, _, 0, _, ⟨v, r, e, h, t⟩, q => by
    subst e; simp at q; subst q; exact ⟨w, rfl, h⟩
  | _ :: _, _, i + 1, _, ⟨v, r, e, h, t⟩, q => by
    subst e
    obtain ⟨v', h1, h2⟩ := RVs.back (i := i) t (by simpa using q)
    exact ⟨v', by simpa using h1, h2⟩
theorem RVs.set {H : Hp} {w : W} {v : V} (h : RV H w v) : ∀ {ws : List W} {vs : List V} (i : Nat), RVs H ws vs → RVs H (ws.set i w) (vs.set i v)
  | [], _, i, e => by rw [show _ = [] from e]; simp; exact RVs.nil
  | _ :: _, _, 0, ⟨_, _, e, _, t⟩ => by subst e; exact .cons h t
  | _ :: _, _, i + 1, ⟨_, _, e, h', t⟩ => by subst e; exact .cons h' (RVs.set h i t)
theorem RVs.append {H : Hp} : ∀ {ws ws' : List W} {vs vs' : List V}, RVs H ws vs → RVs H ws' vs' → RVs H (ws ++ ws') (vs ++ vs')
  | [], _, _, _, e, t => by rw [show _ = [] from e]; exact t
  | _ :: _, _, _, _, ⟨_, _, e, h, t⟩, t' => by subst e; exact .cons h (RVs.append t t')
theorem RVs.take {H : Hp} : ∀ {ws : List W} {vs : List V} (n : Nat), RVs H ws vs → RVs H (ws.take n) (vs.take n)
  | _, _, 0, _ => RVs.nil
  | [], _, _ + 1, e => by rw [show _ = [] from e]; exact RVs.nil
  | _ :: _, _, n + 1, ⟨_, _, e, h, t⟩ => by subst e; exact .cons h (RVs.take n t)
theorem RVs.drop {H : Hp} : ∀ {ws : List W} {vs : List V} (n : Nat), RVs H ws vs → RVs H (ws.drop n) (vs.drop n)
  | _, _, 0, h => h
  | [], _, _ + 1, e => by rw [show _ = [] from e]; exact RVs.nil
  | _ :: _, _, n + 1, ⟨_, _, e, h, t⟩ => by subst e; exact RVs.drop n t
theorem RVs.ints {H : Hp} : ∀ (ns : List Int), RVs H (ns.map W.int) (ns.map V.int)
  | [] => RVs.nil
  | _ :: ns => .cons rfl (RVs.ints ns)
theorem RVs.ints_eq {H : Hp} : ∀ {ns : List Int} {vs : List V}, RVs H (ns.map W.int) vs → vs = ns.map V.int
  | [], _, h => h
  | _ :: ns, _, ⟨_, _, e, h, t⟩ => by rw [e, RVs.ints_eq t, show _ = V.int _ from h]; rfl
theorem RVs.strs_eq {H : Hp} : ∀ {ns : List Str} {vs : List V}, RVs H (ns.map W.str) vs → vs = ns.map V.str
  | [], _, h => h
  | _ :: ns, _, ⟨_, _, e, h, t⟩ => by rw [e, RVs.strs_eq t, show _ = V.str _ from h]; rfl
theorem RVs.strs {H : Hp} : ∀ (ns : List Str), RVs H (ns.map W.str) (ns.map V.str)
  | [] => RVs.nil
  | _ :: ns => .cons rfl (RVs.strs ns)
theorem RVs.bls_eq {H : Hp} : ∀ {ns : List Bool} {vs : List V}, RVs H (ns.map W.bl) vs → vs = ns.map V.bl
  | [], _, h => h
  | _ :: ns, _, ⟨_, _, e, h, t⟩ => by rw [e, RVs.bls_eq t, show _ = V.bl _ from h]; rfl

/-! ### equality of values -/
mutual
def eqW : W → W → Bool
  | .non, b => (match b with | .non => true | _ => false)
  | .bl a, b => (match b with | .bl b => a == b | _ => false)
  | .int a, b => (match b with | .int b => decide (a = b) | _ => false)
  | .str a, b => (match b with | .str b => decide (a = b) | _ => false)
  | .ref a, b => (match b with | .ref b => a == b | _ => false)
  | .ty a, b => (match b with | .ty b => a == b | _ => false)
  | .tup a, b => (match b with | .tup b => eqWs a b | _ => false)
  | .lst a, b => (match b with | .lst b => eqWs a b | _ => false)
def eqWs : List W → List W → Bool
  | [], b => (match b with | [] => true | _ => false)
  | a :: as, b => (match b with | b :: bs => eqW a b && eqWs as bs | [] => false)
end
mutual
theorem eqW_self : ∀ a : W, eqW a a = true
  | .non => rfl
  | .bl a => by simp [eqW]
  | .int a => by simp [eqW]
  | .str a => by simp [eqW]
  | .ref a => by simp [eqW]
  | .ty a => by simp [eqW]
  | .tup a => by rw [eqW]; exact eqWs_self a
  | .lst a => by rw [eqW]; exact eqWs_self a
theorem eqWs_self : ∀ a : List W, eqWs a a = true
  | [] => rfl
  | a :: as => by show (eqW a a && eqWs as as) = true; rw [eqW_self a, eqWs_self as]; rfl
end
mutual
theorem eq_of_eqW : ∀ a b : W, eqW a b = true → a = b
  | .non, b, h => by cases b <;> first | rfl | (simp [eqW] at h)
  | .bl a, b, h => by cases b <;> first | (simp [eqW] at h; rw [h]) | (simp [eqW] at h)
  | .int a, b, h => by cases b <;> first | (simp [eqW] at h; rw [h]) | (simp [eqW] at h)
  | .str a, b, h => by cases b <;> first | (simp [eqW] at h; rw [h]) | (simp [eqW] at h)
  | .ref a, b, h => by cases b <;> first | (simp [eqW] at h; rw [h]) | (simp [eqW] at h)
  | .ty a, b, h => by cases b <;> first | (simp [eqW] at h; rw [h]) | (simp [eqW] at h)
  | .tup a, b, h => by cases b <;> first | (rw [eqW] at h; rw [eq_of_eqWs a _ h]) | (simp [eqW] at h)
  | .lst a, b, h => by cases b <;> first | (rw [eqW] at h; rw [eq_of_eqWs a _ h]) | (simp [eqW] at h)
theorem eq_of_eqWs : ∀ a b : List W, eqWs a b = true → a = b
  | [], b, h => by cases b <;> first | rfl | (simp [eqWs] at h)
  | a :: as, b, h => by
    cases b with
    | nil => simp [eqWs] at h
    | cons b bs =>
      have h : (eqW a b && eqWs as bs) = true := h
      rw [Bool.and_eq_true] at h
      rw [eq_of_eqW a b h.1, eq_of_eqWs as bs h.2]
end
instance : DecidableEq W := fun a b => if h : eqW a b = true then .isTrue (eq_of_eqW a b h) else .isFalse fun e => h (e ▸ eqW_self a)
theorem decW (a b : W) : decide (a = b) = eqW a b := by
  cases h : eqW a b with
  | true => exact decide_eq_true (eq_of_eqW a b h)
  | false => exact decide_eq_false fun e => by rw [e, eqW_self] at h; cases h
theorem eqW_iff {a b : W} : eqW a b = true ↔ a = b := ⟨eq_of_eqW a b, fun e => e ▸ eqW_self a⟩
end AL
namespace AL
open PySem PySem.Spec L2
open PyProof.Rows hiding St

/-! ### the abstract heap -/
inductive AO where
  | lst (ws : List W) | fro (ws : List W) | dK (kvs : List (Key × W)) | dN (kvs : List (W × W)) | zK (kvs : List (Key × W)) | zN (kvs : List (W × W)) | ins (C dx : Addr) (fs : List (Str × W)) | xd (fs : List (Str × W)) | raw (u : HO)
abbrev AH := Addr → Option AO
abbrev AS := List (Option W)
def aup (G : AH) (a : Addr) (o : AO) : AH := fun b => if b = a then some o else G b
theorem aup_same {G : AH} {a : Addr} {o : AO} : aup G a o a = some o := by unfold aup; rw [if_pos rfl]
theorem aup_ne {G : AH} {a b : Addr} {o : AO} (h : b ≠ a) : aup G a o b = G b := by unfold aup; rw [if_neg h]
theorem aup_aup {G : AH} {a : Addr} {o u : AO} : aup (aup G a o) a u = aup G a u := by
  funext b; unfold aup; split <;> rfl
theorem ane_none {G : AH} {a b : Addr} {o : AO} (h : G a = some o) (h' : G b = none) : a ≠ b := by
  intro e; subst e; rw [h] at h'; cases h'
theorem ane {G : AH} {a b : Addr} {o u : AO} (h : G a = some o) (h' : G b = some u) (d : o ≠ u) : a ≠ b := by
  intro e; subst e; rw [h] at h'; exact d (Option.some.inj h')
/-- a new one does not stand in the way -/
theorem aup_new {G : AH} {a p : Addr} {o u : AO} (hp : G p = none) (h : G a = some o) : aup G p u a = some o := by
  rw [aup_ne (ane_none h hp)]; exact h
theorem aup_old {G : AH} {a p : Addr} {o u : AO} (hp : a ≠ p) (h : G a = some o) : aup G p u a = some o := by
  rw [aup_ne hp]; exact h
theorem aup_free {G : AH} {a p : Addr} {u : AO} (h : aup G p u a = none) : G a = none ∧ a ≠ p := by
  by_cases e : a = p
  · subst e; rw [aup_same] at h; cases h
  · rw [aup_ne e] at h; exact ⟨h, e⟩

structure Ct where
  P : Program
  w : World
  K : PySem.W.Frag
def cc (X : Cx) : Ct := ⟨X.prog, X.w, X.K⟩

mutual
/-- a value as a key -/
def nk : W → NestedKey
  | .non => .none
  | .bl b => .num (if b = true then 1 else 0)
  | .int i => .num i
  | .str x => .text x
  | .ref _ => .none
  | .ty _ => .none
  | .tup ws => .tup (nks ws)
  | .lst _ => .none
def nks : List W → List NestedKey
  | [] => []
  | w :: ws => nk w :: nks ws
end
mutual
/-- ints, texts, None, tuples of these -/
def kbl : W → Bool
  | .non => true
  | .bl _ => false
  | .int _ => true
  | .str _ => true
  | .ref _ => false
  | .ty _ => false
  | .tup ws => kbls ws
  | .lst _ => false
def kbls : List W → Bool
  | [] => true
  | w :: ws => kbl w && kbls ws
end
mutual
theorem nk_inj : ∀ a b : W, kbl a = true → kbl b = true → nk a = nk b → a = b
  | .non, .non, _, _, _ => rfl
  | .int a, .int b, _, _, h => by simp only [nk, NestedKey.num.injEq] at h; rw [h]
  | .str a, .str b, _, _, h => by simp only [nk, NestedKey.text.injEq] at h; rw [h]
  | .tup a, .tup b, ha, hb, h => by
    simp only [nk, NestedKey.tup.injEq] at h
    rw [nks_inj a b (by simpa only [kbl] using ha) (by simpa only [kbl] using hb) h]
  | .non, .int _, _, _, h | .non, .str _, _, _, h | .non, .tup _, _, _, h => by simp [nk] at h
  | .int _, .non, _, _, h | .int _, .str _, _, _, h | .int _, .tup _, _, _, h => by simp [nk] at h
  | .str _, .non, _, _, h | .str _, .int _, _, _, h | .str _, .tup _, _, _, h => by simp [nk] at h
  | .tup _, .non, _, _, h | .tup _, .int _, _, _, h | .tup _, .str _, _, _, h => by simp [nk] at h
  | .bl _, _, h, _, _ => by simp [kbl] at h
  | .ref _, _, h, _, _ => by simp [kbl] at h
  | .ty _, _, h, _, _ => by simp [kbl] at h
  | .lst _, _, h, _, _ => by simp [kbl] at h
  | .non, .bl _, _, h, _ | .non, .ref _, _, h, _ | .non, .lst _, _, h, _ | .non, .ty _, _, h, _ => by simp [kbl] at h
  | .int _, .bl _, _, h, _ | .int _, .ref _, _, h, _ | .int _, .lst _, _, h, _ | .int _, .ty _, _, h, _ => by simp [kbl] at h
  | .str _, .bl _, _, h, _ | .str _, .ref _, _, h, _ | .str _, .lst _, _, h, _ | .str _, .ty _, _, h, _ => by simp [kbl] at h
  | .tup _, .bl _, _, h, _ | .tup _, .ref _, _, h, _ | .tup _, .lst _, _, h, _ | .tup _, .ty _, _, h, _ => by simp [kbl] at h
theorem nks_inj : ∀ a b : List W, kbls a = true → kbls b = true → nks a = nks b → a = b
  | [], [], _, _, _ => rfl
  | a :: as, b :: bs, ha, hb, h => by
    simp only [kbls, Bool.and_eq_true] at ha hb
    simp only [nks, List.cons.injEq] at h
    rw [nk_inj a b ha.1 hb.1 h.1, nks_inj as bs ha.2 hb.2 h.2]
  | [], _ :: _, _, _, h => by simp [nks] at h
  | _ :: _, [], _, _, h => by simp [nks] at h
end

/-- a dict whose keys are nested tuples, as one object -/
def rawN (P : Program) (w : World) (a : Addr) (es : List (NestedKey × Addr × V)) : Heap → Prop := fun h =>
  es.length ≤ sizeLine ∧ (a == sysModules) = false ∧ ∃ xs : List (NestedKey × Addr × Value), Paired (fun (p : NestedKey × Addr × V) (q : NestedKey × Addr × Value) => p.1 = q.1 ∧ p.2.1 = q.2.1 ∧ RelV p.2.2 q.2.2) es xs ∧
    ∃ o es' ep, h.get? a = some o ∧ o.ExactDict ∧ o.data = .dict es' ep ∧ es'.toList = xs.map (entryOfKey (nestedKind P w)) ∧ (xs.map (·.1)).Nodup

def KWV {κ : Type} (H : Hp) : List (κ × W) → List (κ × V) → Prop := Paired fun (p : κ × W) (q : κ × V) => p.1 = q.1 ∧ RV H p.2 q.2
theorem KWV.mono {κ : Type} {H H' : Hp} {kws : List (κ × W)} {kvs : List (κ × V)} (h : KWV H kws kvs) (k : Keep H H') : KWV H' kws kvs := Paired.mapP h fun _ _ z => ⟨z.1, z.2.mono k⟩
def NWV (H : Hp) : List (W × W) → List (NestedKey × Addr × V) → Prop := Paired fun (p : W × W) (q : NestedKey × Addr × V) => q.1 = nk p.1 ∧ kbl p.1 = true ∧ (nk p.1).depth ≤ 8 ∧ RV H p.1 (.ref q.2.1) ∧ RV H p.2 q.2.2

def RO (c : Ct) (H : Hp) (a : Addr) : AO → Prop
  | .lst ws => ∃ vs, H a = some (.lst vs) ∧ RVs H ws vs
  | .fro ws => ∃ vs, Rd H a (.lst vs) ∧ RVs H ws vs
  | .dK kws => ∃ kvs, H a = some (.dK kvs) ∧ KWV H kws kvs
  | .dN kws => ∃ es, H a = some (.ext (rawN c.P c.w a es)) ∧ NWV H kws es
  | .zK kws => ∃ o kvs, H a = some (.frz o (.dK kvs)) ∧ KWV H kws kvs
  | .zN kws => ∃ o es, H a = some (.frz o (.ext (rawN c.P c.w a es))) ∧ NWV H kws es
  | .ins C dx fs => ∃ gs, H a = some (.ins C dx gs) ∧ KWV H fs gs
  | .xd fs => ∃ gs, H a = some (.xd gs) ∧ KWV H fs gs
  | .raw u => H a = some u
def RG (c : Ct) (H : Hp) (G : AH) : Prop := ∀ a o, G a = some o → RO c H a o
theorem RO.at {c : Ct} {H H' : Hp} {a : Addr} {o : AO} (h : RO c H a o) (e : H' a = H a) (k : Keep H H') : RO c H' a o := by
  cases o with
  | lst ws => obtain ⟨vs, h1, h2⟩ := h; exact ⟨vs, e.trans h1, h2.mono k⟩
  | fro ws =>
    obtain ⟨vs, h1, h2⟩ := h
    refine ⟨vs, ?_, h2.mono k⟩
    rcases h1 with h | ⟨o, h⟩
    · exact .inl (e.trans h)
    · exact .inr ⟨o, e.trans h⟩
  | dK kws => obtain ⟨vs, h1, h2⟩ := h; exact ⟨vs, e.trans h1, h2.mono k⟩
  | dN kws => obtain ⟨vs, h1, h2⟩ := h; exact ⟨vs, e.trans h1, Paired.mapP h2 fun _ _ z => ⟨z.1, z.2.1, z.2.2.1, z.2.2.2.1.mono k, z.2.2.2.2.mono k⟩⟩
  | zK kws => obtain ⟨o, vs, h1, h2⟩ := h; exact ⟨o, vs, e.trans h1, h2.mono k⟩
  | zN kws => obtain ⟨o, vs, h1, h2⟩ := h; exact ⟨o, vs, e.trans h1, Paired.mapP h2 fun _ _ z => ⟨z.1, z.2.1, z.2.2.1, z.2.2.2.1.mono k, z.2.2.2.2.mono k⟩⟩
  | ins C dx fs => obtain ⟨vs, h1, h2⟩ := h; exact ⟨vs, e.trans h1, h2.mono k⟩
  | xd fs => obtain ⟨vs, h1, h2⟩ := h; exact ⟨vs, e.trans h1, h2.mono k⟩
  | raw u => exact e.trans h
section
variable {c : Ct} {H H' : Hp} {G : AH} {a p : Addr} {o : AO} {u : HO}
theorem RO.some (h : RO c H a o) : ∃ u, H a = some u := by
  cases o with
  | lst ws => obtain ⟨vs, h1, _⟩ := h; exact ⟨_, h1⟩
  | fro ws => obtain ⟨vs, h1 | ⟨o, h1⟩, _⟩ := h <;> exact ⟨_, h1⟩
  | dK kws => obtain ⟨vs, h1, _⟩ := h; exact ⟨_, h1⟩
  | dN kws => obtain ⟨vs, h1, _⟩ := h; exact ⟨_, h1⟩
  | zK kws => obtain ⟨_, vs, h1, _⟩ := h; exact ⟨_, h1⟩
  | zN kws => obtain ⟨_, vs, h1, _⟩ := h; exact ⟨_, h1⟩
  | ins C dx fs => obtain ⟨vs, h1, _⟩ := h; exact ⟨_, h1⟩
  | xd fs => obtain ⟨vs, h1, _⟩ := h; exact ⟨_, h1⟩
  | raw u => exact ⟨_, h⟩
theorem RG.same (r : RG c H G) (s : Same H H') (k : Keep H H') : RG c H' G := fun a o e => by
  obtain ⟨u, q⟩ := (r a o e).some
  exact (r a o e).at ((s a u q).trans q.symm) k
theorem RG.tup (r : RG c H G) (n : H p = none) : RG c (upd H p u) G := r.same (Same.new n) (Keep.new n)
/-- a new object that is tracked -/
theorem RG.new (r : RG c H G) (n : H p = none) (h : RO c (upd H p u) p o) : RG c (upd H p u) (aup G p o) := fun a o' e => by
  by_cases q : a = p
  · subst q; rw [aup_same] at e; cases e; exact h
  · rw [aup_ne q] at e; exact (r.tup n) a o' e
/-- a tracked object changes -/
theorem RG.put (r : RG c H G) (k : Keep H (upd H p u)) (h : RO c (upd H p u) p o) : RG c (upd H p u) (aup G p o) := fun a o' e => by
  by_cases q : a = p
  · subst q; rw [aup_same] at e; cases e; exact h
  · rw [aup_ne q] at e; exact (r a o' e).at (upd_ne q) k
/-- fewer known objects -/
theorem RG.less {G' : AH} (r : RG c H G) (s : ∀ a o, G' a = some o → G a = some o) : RG c H G' := fun a o e => r a o (s a o e)
end
/-- a new address is none that is known -/
theorem RG.free {c : Ct} {H : Hp} {G : AH} {p : Addr} (r : RG c H G) (n : H p = none) : G p = none := by
  cases q : G p with
  | none => rfl
  | some o =>
    obtain ⟨u, h⟩ := (r p o q).some
    rw [n] at h; cases h

/-! ### by value -/
theorem RV.sqL {K : PySem.W.Frag} {H : Hp} {ws : List W} {u : V} (h : RV H (.lst ws) u) : ∃ a vs, u = .ref a ∧ SqL K H a vs ∧ RVs H ws vs := by
  obtain ⟨a, vs, e, ⟨o, ho⟩, r⟩ := h
  exact ⟨a, vs, e, .inl (.inr ⟨o, ho⟩), r⟩
def adel (G : AH) (a : Addr) : AH := fun b => if b = a then none else G b
theorem adel_ne {G : AH} {a b : Addr} (h : b ≠ a) : adel G a b = G b := by unfold adel; rw [if_neg h]
theorem adel_aup {G : AH} {a : Addr} {o : AO} (h : G a = none) : adel (aup G a o) a = G := by
  funext b; unfold adel aup
  by_cases e : b = a
  · subst e; rw [if_pos rfl, h]
  · rw [if_neg e, if_neg e]
theorem adel_swap {G : AH} {a b : Addr} {o : AO} (h : b ≠ a) : adel (aup G b o) a = aup (adel G a) b o := by
  funext q; unfold adel aup
  by_cases e : q = a
  · subst e; simp [Ne.symm h]
  · simp [e]
theorem adel_none {G : AH} {a : Addr} (h : G a = none) : adel G a = G := by
  funext b; unfold adel
  by_cases e : b = a
  · subst e; rw [if_pos rfl, h]
  · rw [if_neg e]
theorem aup_swap {G : AH} {a b : Addr} {o u : AO} (h : a ≠ b) : aup (aup G a o) b u = aup (aup G b u) a o := by
  funext q; unfold aup
  by_cases e : q = a
  · subst e; simp [h]
  · simp [e]

/-! ### slots -/
def RS (H : Hp) (σ : St) (ρ : AS) : Prop := ρ.length = σ.length ∧ ∀ (i : Nat) (w : W), ρ[i]? = some (some w) → ∃ v, σ[i]? = some (some v) ∧ RV H w v
theorem RS.mono {H H' : Hp} {σ : St} {ρ : AS} (h : RS H σ ρ) (k : Keep H H') : RS H' σ ρ := ⟨h.1, fun i w e => let ⟨v, h1, h2⟩ := h.2 i w e; ⟨v, h1, h2.mono k⟩⟩
theorem RS.set {H : Hp} {σ : St} {ρ : AS} {w : W} {v : V} (h : RS H σ ρ) (i : Nat) (r : RV H w v) : RS H (σ.set i (some v)) (ρ.set i (some w)) := by
  refine ⟨by rw [List.length_set, List.length_set]; exact h.1, fun j w' e => ?_⟩
  by_cases q : i = j
  · subst q
    by_cases l : i < ρ.length
    · rw [List.getElem?_set_self l] at e; cases e
      exact ⟨v, by rw [List.getElem?_set_self (by rw [← h.1]; exact l)], r⟩
    · rw [List.getElem?_eq_none (by simpa using l)] at e; cases e
  · rw [List.getElem?_set_ne q] at e ⊢
    exact h.2 j w' e
theorem RS.setN {H : Hp} {σ : St} {ρ : AS} (h : RS H σ ρ) (i : Nat) : RS H (σ.set i none) (ρ.set i none) := by
  refine ⟨by rw [List.length_set, List.length_set]; exact h.1, fun j w' e => ?_⟩
  by_cases q : i = j
  · subst q
    by_cases l : i < ρ.length
    · rw [List.getElem?_set_self l] at e; cases e
    · rw [List.getElem?_eq_none (by simpa using l)] at e; cases e
  · rw [List.getElem?_set_ne q] at e ⊢
    exact h.2 j w' e
def wipeW (ρ : AS) : List Nat → AS
  | [] => ρ
  | v :: vs => (wipeW ρ vs).set v none
theorem RS.wipe {H : Hp} {σ : St} {ρ : AS} (h : RS H σ ρ) : ∀ vs : List Nat, RS H (L2.wipe σ vs) (wipeW ρ vs)
  | [] => h
  | v :: vs => (RS.wipe h vs).setN v
theorem RS.len {H : Hp} {σ : St} {ρ : AS} (h : RS H σ ρ) : ρ.length = σ.length := h.1
def startW (N : List Str) (ws : List W) : AS := ws.map some ++ List.replicate (N.length - ws.length) none
theorem RS.start {H : Hp} {N : List Str} {ws : List W} {vs : List V} (r : RVs H ws vs) : RS H (L2.start N vs) (startW N ws) := by
  have hl := r.length
  refine ⟨by unfold L2.start startW; simp [hl], fun i w e => ?_⟩
  unfold startW at e
  unfold L2.start
  by_cases q : i < ws.length
  · rw [List.getElem?_append_left (by simpa using q), List.getElem?_map] at e
    cases z : ws[i]? with
    | none => rw [z] at e; cases e
    | some w' =>
      rw [z] at e
      simp at e
      subst e
      obtain ⟨v, h1, h2⟩ := r.get z
      refine ⟨v, ?_, h2⟩
      rw [List.getElem?_append_left (by simpa [← hl] using q), List.getElem?_map, h1]
      rfl
  · rw [List.getElem?_append_right (by simpa using q), List.getElem?_replicate] at e
    split at e <;> cases e

/-! ### the judgements -/
section
variable (X : Cx)
/-- what an expression's end asks -/
def CW (c : Ct) (H : Hp) (K : W → AH → Prop) : VK := fun v H' => ∃ w G', Keep H H' ∧ RV H' w v ∧ RG c H' G' ∧ K w G'
def CB (c : Ct) (H : Hp) (K : Bool → AH → Prop) : Bool → Hp → Prop := fun b H' => ∃ G', Keep H H' ∧ RG c H' G' ∧ K b G'
def CA (c : Ct) (H : Hp) (n : Nat) (K : List W → AH → Prop) : List V → Hp → Prop := fun vs H' => ∃ ws G', Keep H H' ∧ RVs H' ws vs ∧ RG c H' G' ∧ ws.length = n ∧ K ws G'
def CS (c : Ct) (H : Hp) (K : AS → AH → Prop) : St → Hp → Prop := fun σ' H' => ∃ ρ' G', Keep H H' ∧ RS H' σ' ρ' ∧ RG c H' G' ∧ K ρ' G'
structure AEnds where
  nx : AS → AH → Prop
  rt : W → AH → Prop
  bk : AS → AH → Prop := fun _ _ => False
  ct : AS → AH → Prop := fun _ _ => False
def CD (c : Ct) (H : Hp) (A : AEnds) : Ends := ⟨CS c H A.nx, CW c H A.rt, CS c H A.bk, CS c H A.ct⟩

structure EQ (e : Expr) (ρ : AS) (G : AH) (K : W → AH → Prop) : Prop where
  run : ∀ (pins : List (Addr × Obj)) (s : Shared) (σ : St) (H : Hp), Inv X pins σ H s → RS H σ ρ → RG (cc X) H G → wpAny (model X.prog X.w) X.A (eval e X.env) (EP X pins σ (CW (cc X) H K)) X.xe s
structure BQ (e : Expr) (ρ : AS) (G : AH) (K : Bool → AH → Prop) : Prop where
  run : ∀ (pins : List (Addr × Obj)) (s : Shared) (σ : St) (H : Hp), Inv X pins σ H s → RS H σ ρ → RG (cc X) H G → wpAny (model X.prog X.w) X.A (isTrue e X.env (eval e X.env)) (TP X pins σ (CB (cc X) H K)) X.xe s
/-- a test whatever its 'whole' is -/
structure WQ (e : Expr) (ρ : AS) (G : AH) (K : Bool → AH → Prop) : Prop where
  run : ∀ (whole : Sem Value) (pins : List (Addr × Obj)) (s : Shared) (σ : St) (H : Hp), Inv X pins σ H s → RS H σ ρ → RG (cc X) H G → wpAny (model X.prog X.w) X.A (isTrue e X.env whole) (TP X pins σ (CB (cc X) H K)) X.xe s
structure AQ (es : List Expr) (ρ : AS) (G : AH) (K : List W → AH → Prop) : Prop where
  run : ∀ (pos : Pos) (pins : List (Addr × Obj)) (s : Shared) (σ : St) (H : Hp), Inv X pins σ H s → RS H σ ρ → RG (cc X) H G → wpAny (model X.prog X.w) X.A (spliced (backTo pos (starEach es X.env))) (AP X pins σ (CA (cc X) H es.length K)) X.xe s
structure S1 (st : Stmt) (ρ : AS) (G : AH) (A : AEnds) : Prop where
  run : ∀ (pins : List (Addr × Obj)) (s : Shared) (σ : St) (H : Hp), Inv X pins σ H s → RS H σ ρ → RG (cc X) H G → wpAny (model X.prog X.w) X.A (exec st X.env) (SP X pins (CD (cc X) H A)) X.xe s
structure SQ (sts : List Stmt) (ρ : AS) (G : AH) (A : AEnds) : Prop where
  run : ∀ (pins : List (Addr × Obj)) (s : Shared) (σ : St) (H : Hp), Inv X pins σ H s → RS H σ ρ → RG (cc X) H G → wpAny (model X.prog X.w) X.A (execs sts X.env) (SP X pins (CD (cc X) H A)) X.xe s
structure GQ (tg : Expr) (w : W) (ρ : AS) (G : AH) (K : AS → AH → Prop) : Prop where
  run : ∀ (pins : List (Addr × Obj)) (s : Shared) (σ : St) (H : Hp) (v : V) (u : Value), Inv X pins σ H s → RS H σ ρ → RG (cc X) H G → RV H w v → RelV v u →
    wpAny (model X.prog X.w) X.A (assign tg X.env u) (fun _ s' => ∃ σ' H', Inv X pins σ' H' s' ∧ CS (cc X) H K σ' H') X.xe s
structure GsQ (ts : List Expr) (ws : List W) (ρ : AS) (G : AH) (K : AS → AH → Prop) : Prop where
  run : ∀ (pins : List (Addr × Obj)) (s : Shared) (σ : St) (H : Hp) (vs : List V) (us : List Value), Inv X pins σ H s → RS H σ ρ → RG (cc X) H G → RVs H ws vs → Vals vs us →
    wpAny (model X.prog X.w) X.A (assignInOrder ((assignEach ts X.env).map (·.2)) us) (fun _ s' => ∃ σ' H', Inv X pins σ' H' s' ∧ CS (cc X) H K σ' H') X.xe s

def tE (e : Expr) : TE := fun σ H Q => ∃ ρ G K, EQ X e ρ G K ∧ RS H σ ρ ∧ RG (cc X) H G ∧ ∀ v H', CW (cc X) H K v H' → Q v H'
def tT (e : Expr) : TT := fun σ H Q => ∃ ρ G K, BQ X e ρ G K ∧ RS H σ ρ ∧ RG (cc X) H G ∧ ∀ v H', CB (cc X) H K v H' → Q v H'
def tW (e : Expr) : TT := fun σ H Q => ∃ ρ G K, WQ X e ρ G K ∧ RS H σ ρ ∧ RG (cc X) H G ∧ ∀ v H', CB (cc X) H K v H' → Q v H'
def tA (es : List Expr) : TA := fun σ H Q => ∃ ρ G K, AQ X es ρ G K ∧ RS H σ ρ ∧ RG (cc X) H G ∧ ∀ v H', CA (cc X) H es.length K v H' → Q v H'
def DImp (D D' : Ends) : Prop := (∀ σ H, D.nx σ H → D'.nx σ H) ∧ (∀ v H, D.rt v H → D'.rt v H) ∧ (∀ σ H, D.bk σ H → D'.bk σ H) ∧ (∀ σ H, D.ct σ H → D'.ct σ H)
def tS (st : Stmt) : TS := fun D σ H => ∃ ρ G A, S1 X st ρ G A ∧ RS H σ ρ ∧ RG (cc X) H G ∧ DImp (CD (cc X) H A) D
def tSs (sts : List Stmt) : TS := fun D σ H => ∃ ρ G A, SQ X sts ρ G A ∧ RS H σ ρ ∧ RG (cc X) H G ∧ DImp (CD (cc X) H A) D
def tG (tg : Expr) : TG := fun v σ H Q => ∃ w ρ G K, GQ X tg w ρ G K ∧ RS H σ ρ ∧ RG (cc X) H G ∧ RV H w v ∧ ∀ σ' H', CS (cc X) H K σ' H' → Q σ' H'
def tGs (ts : List Expr) : TGs := fun vs σ H Q => ∃ ws ρ G K, GsQ X ts ws ρ G K ∧ RS H σ ρ ∧ RG (cc X) H G ∧ RVs H ws vs ∧ ∀ σ' H', CS (cc X) H K σ' H' → Q σ' H'
end
section
variable {X : Cx}
theorem SP.imp {X : Cx} {pins : List (Addr × Obj)} {D D' : Ends} {f : Flow} {s : Shared} (h : SP X pins D f s) (i : DImp D D') : SP X pins D' f s := by
  cases f with
  | next => obtain ⟨σ, H, I, q⟩ := h; exact ⟨σ, H, I, i.1 _ _ q⟩
  | brk => obtain ⟨σ, H, I, q⟩ := h; exact ⟨σ, H, I, i.2.2.1 _ _ q⟩
  | cont => obtain ⟨σ, H, I, q⟩ := h; exact ⟨σ, H, I, i.2.2.2 _ _ q⟩
  | ret u => obtain ⟨v, σ, H, I, r, q⟩ := h; exact ⟨v, σ, H, I, r, i.2.1 _ _ q⟩
theorem pe_E {e : Expr} : PE X e (tE X e) := ⟨fun pins s σ H Q I ⟨ρ, G, K, h, rs, rg, k⟩ => thn (h.run pins s σ H I rs rg) fun u s' ⟨v, H', I', r, q⟩ => ⟨v, H', I', r, k v H' q⟩⟩
theorem pt_T {e : Expr} : PT X e (tT X e) := ⟨fun pins s σ H Q I ⟨ρ, G, K, h, rs, rg, k⟩ => thn (h.run pins s σ H I rs rg) fun u s' ⟨H', I', q⟩ => ⟨H', I', k u H' q⟩⟩
theorem pw_W {e : Expr} : PW X e (tW X e) := ⟨fun wh pins s σ H Q I ⟨ρ, G, K, h, rs, rg, k⟩ => thn (h.run wh pins s σ H I rs rg) fun u s' ⟨H', I', q⟩ => ⟨H', I', k u H' q⟩⟩
theorem pa_A {e : List Expr} : PA X e (tA X e) := ⟨fun pos pins s σ H Q I ⟨ρ, G, K, h, rs, rg, k⟩ => thn (h.run pos pins s σ H I rs rg) fun u s' ⟨v, H', I', r, q⟩ => ⟨v, H', I', r, k v H' q⟩⟩
theorem ps_S {e : Stmt} : PS X e (tS X e) := ⟨fun pins s σ H D I ⟨ρ, G, A, h, rs, rg, k⟩ => thn (h.run pins s σ H I rs rg) fun u s' q => SP.imp (D := CD (cc X) H A) q k⟩
theorem pss_S {e : List Stmt} : PSs X e (tSs X e) := ⟨fun pins s σ H D I ⟨ρ, G, A, h, rs, rg, k⟩ => thn (h.run pins s σ H I rs rg) fun u s' q => SP.imp (D := CD (cc X) H A) q k⟩
theorem pg_G {e : Expr} : PG X e (tG X e) := ⟨fun pins s σ H v u Q I r ⟨w, ρ, G, K, h, rs, rg, rv, k⟩ => thn (h.run pins s σ H v u I rs rg rv r) fun u s' ⟨σ', H', I', q⟩ => ⟨σ', H', I', k σ' H' q⟩⟩
theorem pgs_G {e : List Expr} : PGs X e (tGs X e) := ⟨fun pins s σ H v u Q I r ⟨w, ρ, G, K, h, rs, rg, rv, k⟩ => thn (h.run pins s σ H v u I rs rg rv r) fun u s' ⟨σ', H', I', q⟩ => ⟨σ', H', I', k σ' H' q⟩⟩

theorem EQ.of {e : Expr} {t : TE} {ρ : AS} {G : AH} {K : W → AH → Prop} (h : PE X e t) (k : ∀ σ H, RS H σ ρ → RG (cc X) H G → t σ H (CW (cc X) H K)) : EQ X e ρ G K := ⟨fun pins s σ H I rs rg => h.run pins s σ H _ I (k σ H rs rg)⟩
theorem BQ.of {e : Expr} {t : TT} {ρ : AS} {G : AH} {K : Bool → AH → Prop} (h : PT X e t) (k : ∀ σ H, RS H σ ρ → RG (cc X) H G → t σ H (CB (cc X) H K)) : BQ X e ρ G K := ⟨fun pins s σ H I rs rg => h.run pins s σ H _ I (k σ H rs rg)⟩
theorem WQ.of {e : Expr} {t : TT} {ρ : AS} {G : AH} {K : Bool → AH → Prop} (h : PW X e t) (k : ∀ σ H, RS H σ ρ → RG (cc X) H G → t σ H (CB (cc X) H K)) : WQ X e ρ G K := ⟨fun wh pins s σ H I rs rg => h.run wh pins s σ H _ I (k σ H rs rg)⟩
theorem AQ.of {e : List Expr} {t : TA} {ρ : AS} {G : AH} {K : List W → AH → Prop} (h : PA X e t) (k : ∀ σ H, RS H σ ρ → RG (cc X) H G → t σ H (CA (cc X) H e.length K)) : AQ X e ρ G K := ⟨fun pos pins s σ H I rs rg => h.run pos pins s σ H _ I (k σ H rs rg)⟩
theorem S1.of {e : Stmt} {t : TS} {ρ : AS} {G : AH} {A : AEnds} (h : PS X e t) (k : ∀ σ H, RS H σ ρ → RG (cc X) H G → t (CD (cc X) H A) σ H) : S1 X e ρ G A := ⟨fun pins s σ H I rs rg => h.run pins s σ H _ I (k σ H rs rg)⟩
theorem SQ.of {e : List Stmt} {t : TS} {ρ : AS} {G : AH} {A : AEnds} (h : PSs X e t) (k : ∀ σ H, RS H σ ρ → RG (cc X) H G → t (CD (cc X) H A) σ H) : SQ X e ρ G A := ⟨fun pins s σ H I rs rg => h.run pins s σ H _ I (k σ H rs rg)⟩
theorem GQ.of {e : Expr} {t : TG} {w : W} {ρ : AS} {G : AH} {K : AS → AH → Prop} (h : PG X e t) (k : ∀ v σ H, RS H σ ρ → RG (cc X) H G → RV H w v → t v σ H (CS (cc X) H K)) : GQ X e w ρ G K := ⟨fun pins s σ H v u I rs rg rv r => h.run pins s σ H v u _ I r (k v σ H rs rg rv)⟩
theorem GsQ.of {e : List Expr} {t : TGs} {w : List W} {ρ : AS} {G : AH} {K : AS → AH → Prop} (h : PGs X e t) (k : ∀ v σ H, RS H σ ρ → RG (cc X) H G → RVs H w v → t v σ H (CS (cc X) H K)) : GsQ X e w ρ G K := ⟨fun pins s σ H v u I rs rg rv r => h.run pins s σ H v u _ I r (k v σ H rs rg rv)⟩
end
theorem CW.pre {c : Ct} {H H1 : Hp} {K : W → AH → Prop} (k : Keep H H1) {v : V} {H' : Hp} (h : CW c H1 K v H') : CW c H K v H' := let ⟨w, G', k', r, g, q⟩ := h; ⟨w, G', k.trans k', r, g, q⟩
theorem CB.pre {c : Ct} {H H1 : Hp} {K : Bool → AH → Prop} (k : Keep H H1) {v : Bool} {H' : Hp} (h : CB c H1 K v H') : CB c H K v H' := let ⟨G', k', g, q⟩ := h; ⟨G', k.trans k', g, q⟩
theorem CA.pre {c : Ct} {H H1 : Hp} {n : Nat} {K : List W → AH → Prop} (k : Keep H H1) {v : List V} {H' : Hp} (h : CA c H1 n K v H') : CA c H n K v H' := let ⟨w, G', k', r, g, q⟩ := h; ⟨w, G', k.trans k', r, g, q⟩
theorem CS.pre {c : Ct} {H H1 : Hp} {K : AS → AH → Prop} (k : Keep H H1) {v : St} {H' : Hp} (h : CS c H1 K v H') : CS c H K v H' := let ⟨w, G', k', r, g, q⟩ := h; ⟨w, G', k.trans k', r, g, q⟩
theorem CW.imp {c : Ct} {H : Hp} {K K' : W → AH → Prop} (i : ∀ w G, K w G → K' w G) {v : V} {H' : Hp} (h : CW c H K v H') : CW c H K' v H' := let ⟨w, G', k', r, g, q⟩ := h; ⟨w, G', k', r, g, i _ _ q⟩
theorem CB.imp {c : Ct} {H : Hp} {K K' : Bool → AH → Prop} (i : ∀ w G, K w G → K' w G) {v : Bool} {H' : Hp} (h : CB c H K v H') : CB c H K' v H' := let ⟨G', k', g, q⟩ := h; ⟨G', k', g, i _ _ q⟩
theorem CS.imp {c : Ct} {H : Hp} {K K' : AS → AH → Prop} (i : ∀ w G, K w G → K' w G) {v : St} {H' : Hp} (h : CS c H K v H') : CS c H K' v H' := let ⟨w, G', k', r, g, q⟩ := h; ⟨w, G', k', r, g, i _ _ q⟩
theorem CD.pre {c : Ct} {H H1 : Hp} {A : AEnds} (k : Keep H H1) : DImp (CD c H1 A) (CD c H A) := ⟨fun _ _ h => h.pre k, fun _ _ h => h.pre k, fun _ _ h => h.pre k, fun _ _ h => h.pre k⟩
theorem EQ.mono {X : Cx} {e : Expr} {ρ : AS} {G : AH} {K K' : W → AH → Prop} (h : EQ X e ρ G K) (i : ∀ w G, K w G → K' w G) : EQ X e ρ G K' :=
  ⟨fun pins s σ H I rs rg => thn (h.run pins s σ H I rs rg) fun u s' ⟨v, H', I', r, q⟩ => ⟨v, H', I', r, q.imp i⟩⟩
theorem BQ.mono {X : Cx} {e : Expr} {ρ : AS} {G : AH} {K K' : Bool → AH → Prop} (h : BQ X e ρ G K) (i : ∀ w G, K w G → K' w G) : BQ X e ρ G K' :=
  ⟨fun pins s σ H I rs rg => thn (h.run pins s σ H I rs rg) fun u s' ⟨H', I', q⟩ => ⟨H', I', q.imp i⟩⟩
theorem SQ.mono {X : Cx} {e : List Stmt} {ρ : AS} {G : AH} {A A' : AEnds} (h : SQ X e ρ G A) (i1 : ∀ w G, A.nx w G → A'.nx w G) (i2 : ∀ w G, A.rt w G → A'.rt w G) (i3 : ∀ w G, A.bk w G → A'.bk w G) (i4 : ∀ w G, A.ct w G → A'.ct w G) : SQ X e ρ G A' :=
  ⟨fun pins s σ H I rs rg => thn (h.run pins s σ H I rs rg) fun u s' q => SP.imp (D := CD (cc X) H A) q ⟨fun _ _ z => z.imp i1, fun _ _ z => z.imp i2, fun _ _ z => z.imp i3, fun _ _ z => z.imp i4⟩⟩
theorem S1.mono {X : Cx} {e : Stmt} {ρ : AS} {G : AH} {A A' : AEnds} (h : S1 X e ρ G A) (i1 : ∀ w G, A.nx w G → A'.nx w G) (i2 : ∀ w G, A.rt w G → A'.rt w G) (i3 : ∀ w G, A.bk w G → A'.bk w G) (i4 : ∀ w G, A.ct w G → A'.ct w G) : S1 X e ρ G A' :=
  ⟨fun pins s σ H I rs rg => thn (h.run pins s σ H I rs rg) fun u s' q => SP.imp (D := CD (cc X) H A) q ⟨fun _ _ z => z.imp i1, fun _ _ z => z.imp i2, fun _ _ z => z.imp i3, fun _ _ z => z.imp i4⟩⟩
/-! ### knowing less -/
def Sub (G G' : AH) : Prop := ∀ a o, G a = some o → G' a = some o
theorem Sub.refl {G : AH} : Sub G G := fun _ _ h => h
theorem Sub.trans {G G1 G2 : AH} (h : Sub G G1) (h' : Sub G1 G2) : Sub G G2 := fun a o e => h' a o (h a o e)
theorem Sub.new {G : AH} {p : Addr} {o : AO} (h : G p = none) : Sub G (aup G p o) := fun a u e => aup_new h e
theorem Sub.aup {G G' : AH} {p : Addr} {o : AO} (h : Sub G G') : Sub (aup G p o) (AL.aup G' p o) := fun a u e => by
  by_cases q : a = p
  · subst q; rw [aup_same] at e ⊢; exact e
  · rw [aup_ne q] at e ⊢; exact h a u e
theorem Sub.free {G G' : AH} {p : Addr} (h : Sub G G') (e : G' p = none) : G p = none := by
  cases q : G p with
  | none => rfl
  | some o => rw [h p o q] at e; cases e
theorem RG.sub {c : Ct} {H : Hp} {G G' : AH} (g : RG c H G') (s : Sub G G') : RG c H G := g.less s
theorem EQ.less {X : Cx} {e : Expr} {ρ : AS} {G G' : AH} {K : W → AH → Prop} (s : Sub G G') (h : EQ X e ρ G K) : EQ X e ρ G' K := ⟨fun pins s' σ H I rs rg => h.run pins s' σ H I rs (rg.sub s)⟩
theorem SQ.less {X : Cx} {e : List Stmt} {ρ : AS} {G G' : AH} {A : AEnds} (s : Sub G G') (h : SQ X e ρ G A) : SQ X e ρ G' A := ⟨fun pins s' σ H I rs rg => h.run pins s' σ H I rs (rg.sub s)⟩
/-- fewer slots -/
theorem SQ.slots {X : Cx} {e : List Stmt} {ρ ρ' : AS} {G : AH} {A : AEnds} (hl : ρ'.length = ρ.length) (s : ∀ (i : Nat) (w : W), ρ[i]? = some (some w) → ρ'[i]? = some (some w)) (h : SQ X e ρ G A) : SQ X e ρ' G A :=
  ⟨fun pins s' σ H I rs rg => h.run pins s' σ H I ⟨hl.symm.trans rs.1, fun i w e => rs.2 i w (s i w e)⟩ rg⟩
/-- the state told in other words -/
theorem SQ.st {X : Cx} {e : List Stmt} {ρ : AS} {G : AH} {A : AEnds} (ρ' : AS) (h : ρ = ρ') (k : SQ X e ρ' G A) : SQ X e ρ G A := h ▸ k
theorem SQ.hp {X : Cx} {e : List Stmt} {ρ : AS} {G : AH} {A : AEnds} (G' : AH) (h : G = G') (k : SQ X e ρ G' A) : SQ X e ρ G A := h ▸ k
/-- the same but at some places -/
def Offs (l : List Addr) (G G' : AH) : Prop := ∀ q, q ∉ l → G' q = G q
theorem Offs.refl {l : List Addr} {G : AH} : Offs l G G := fun _ _ => rfl
theorem Offs.trans {l : List Addr} {G G1 G2 : AH} (h : Offs l G G1) (h' : Offs l G1 G2) : Offs l G G2 := fun q hq => (h' q hq).trans (h q hq)
theorem Offs.put {l : List Addr} {G G' : AH} {a : Addr} {o : AO} (h : Offs l G G') (m : a ∈ l) : Offs l G (AL.aup G' a o) := fun q hq => by
  rw [aup_ne (fun e => hq (by rw [e]; exact m))]; exact h q hq
theorem Offs.new {l : List Addr} {G G' : AH} {p : Addr} {o : AO} (h : Offs l G G') : Offs (p :: l) G (AL.aup G' p o) := fun q hq => by
  rw [aup_ne (fun e => hq (by rw [e]; exact List.mem_cons_self))]; exact h q (fun m => hq (List.mem_cons_of_mem _ m))
theorem Offs.more {l l' : List Addr} {G G' : AH} (h : Offs l G G') (s : ∀ q, q ∈ l → q ∈ l') : Offs l' G G' := fun q hq => h q fun m => hq (s q m)
/-- where all places but a are new, G' knows what G knows with a's new object -/
theorem Offs.sub1 {l : List Addr} {G G' : AH} {a : Addr} {o : AO} (h : Offs l G G') (ha : G' a = some o) (n : ∀ q, q ∈ l → q ≠ a → G q = none) : Sub (AL.aup G a o) G' := fun q u e => by
  by_cases z : q = a
  · subst z; rw [aup_same] at e; cases e; exact ha
  · rw [aup_ne z] at e
    by_cases m : q ∈ l
    · rw [n q m z] at e; cases e
    · rw [h q m]; exact e
theorem Offs.sub {l : List Addr} {G G' : AH} (h : Offs l G G') (n : ∀ q, q ∈ l → G q = none) : Sub G G' := fun q u e => by
  by_cases m : q ∈ l
  · rw [n q m] at e; cases e
  · rw [h q m]; exact e
end AL
namespace AL
open PySem PySem.Spec L2
open PyProof.Rows hiding St

/-! ### answers of tests -/
structure ifB (b : Bool) (P Q : Prop) : Prop where
  h : match b with
  | true => P
  | false => Q
theorem ifB_of {b : Bool} {P Q : Prop} (h1 : b = true → P) (h2 : b = false → Q) : ifB b P Q := by
  cases b with
  | true => exact ⟨h1 rfl⟩
  | false => exact ⟨h2 rfl⟩
theorem ifB_dec {p P Q : Prop} [Decidable p] (h1 : p → P) (h2 : ¬ p → Q) : ifB (decide p) P Q := ifB_of (fun e => h1 (of_decide_eq_true e)) fun e => h2 (of_decide_eq_false e)
theorem ifB_ndec {p P Q : Prop} [Decidable p] (h1 : ¬ p → P) (h2 : p → Q) : ifB (!decide p) P Q := ifB_of (fun e => h1 (by simpa using e)) fun e => h2 (by simpa using e)
theorem ifB_T {b : Bool} {P Q : Prop} (e : b = true) (h : P) : ifB b P Q := by subst e; exact ⟨h⟩
theorem ifB_F {b : Bool} {P Q : Prop} (e : b = false) (h : Q) : ifB b P Q := by subst e; exact ⟨h⟩
theorem ifT {P Q : Prop} (h : P) : ifB true P Q := ⟨h⟩
theorem ifF {P Q : Prop} (h : Q) : ifB false P Q := ⟨h⟩
def tst (K : Bool → AH → Prop) : W → AH → Prop := fun z G => match z with
  | .bl b => K b G
  | _ => False
def onI (z : W) (k : Int → Prop) : Prop := match z with
  | .int i => k i
  | _ => False

abbrev WR := W → W → AH → (W → AH → Prop) → Prop
def RR (c : Ct) (r : R2) (R : WR) : Prop := ∀ x y u v H G K (Q : VK), RV H x u → RV H y v → RG c H G → R x y G K → (∀ z H', CW c H K z H' → Q z H') → r u v H Q
theorem RG.newL {c : Ct} {H : Hp} {G : AH} {p : Addr} {ws : List W} {vs : List V} (g : RG c H G) (hp : H p = none) (r : RVs H ws vs) : RG c (upd H p (.lst vs)) (aup G p (.lst ws)) :=
  g.new hp (show RO c (upd H p (.lst vs)) p (.lst ws) from ⟨vs, upd_same, r.mono (Keep.new hp)⟩)
theorem RG.lst {c : Ct} {H : Hp} {G : AH} {a : Addr} {ws : List W} (g : RG c H G) (h : G a = some (.lst ws)) : ∃ vs, H a = some (.lst vs) ∧ RVs H ws vs := g a _ h
theorem RG.mutL {c : Ct} {H : Hp} {G : AH} {a : Addr} {vs vs' : List V} {ws' : List W} (g : RG c H G) (h : H a = some (.lst vs)) (r : RVs H ws' vs') : Keep H (upd H a (.lst vs')) ∧ RG c (upd H a (.lst vs')) (aup G a (.lst ws')) := by
  have k : Keep H (upd H a (.lst vs')) := Keep.mut h trivial
  exact ⟨k, g.put k (show RO c (upd H a (.lst vs')) a (.lst ws') from ⟨vs', upd_same, r.mono k⟩)⟩
/-- a list: tracked, or by value -/
def LsA (G : AH) (w : W) (xs : List W) : Prop := match w with
  | .lst ys => ys = xs
  | .ref a => G a = some (.lst xs)
  | _ => False
theorem LsA.rd {c : Ct} {H : Hp} {G : AH} {w : W} {xs : List W} {u : V} (g : RG c H G) (h : LsA G w xs) (r : RV H w u) : ∃ a vs, u = .ref a ∧ Rd H a (.lst vs) ∧ RVs H xs vs := by
  cases w with
  | lst ys =>
    cases (show ys = xs from h)
    obtain ⟨a, vs, e, ⟨o, ho⟩, q⟩ := r
    exact ⟨a, vs, e, .inr ⟨o, ho⟩, q⟩
  | ref a =>
    obtain ⟨vs, hv, q⟩ := g.lst h
    exact ⟨a, vs, r, .inl hv, q⟩
  | _ => exact h.elim
theorem LsA.sq {c : Ct} {H : Hp} {G : AH} {w : W} {xs : List W} {u : V} (g : RG c H G) (h : LsA G w xs) (r : RV H w u) : ∃ a vs, u = .ref a ∧ SqL c.K H a vs ∧ RVs H xs vs := by
  obtain ⟨a, vs, e, hr, q⟩ := h.rd g r
  exact ⟨a, vs, e, .inl hr, q⟩
theorem _root_.L2.Inv.lstR {X : Cx} {pins : List (Addr × Obj)} {σ : St} {H : Hp} {s : Shared} {a : Addr} {xs : List V} (I : Inv X pins σ H s) (h : Rd H a (.lst xs)) :
    ∃ (z : xs.length ≤ sizeLine) (its : List Value) (n : Nat) (_ : Vals xs its) (_ : xs.length = its.length), s.heap.get? a = some { cls := .type "list", data := .seq its.toArray n } := by
  obtain ⟨z, its, n, r, e⟩ := (h.ok I.hok : ObjOk X.prog X.w H s.heap a (.lst xs))
  exact ⟨z, its, n, r, r.length, e⟩
def rCatR : R2 := fun x y H Q => ∃ l b xs zs, x = .ref l ∧ y = .ref b ∧ Rd H l (.lst xs) ∧ Rd H b (.lst zs) ∧ xs.length + zs.length ≤ sizeLine ∧ ∀ p, H p = none → Q (.ref p) (upd H p (.lst (xs ++ zs)))
theorem op_catR {X : Cx} : OpR X (binaryOp .Add) rCatR := by
  intro pins s σ H x y v u Q I rx ry h
  obtain ⟨l, b, xs, zs, rfl, rfl, hH, hB, hz, q⟩ := h
  cases rx
  cases ry
  obtain ⟨z, its, n, r, hl, e⟩ := I.lstR hH
  obtain ⟨z2, its2, n2, r2, hl2, e2⟩ := I.lstR hB
  refine PySem.P.add_list e e2 ?_ (by rw [List.size_toArray, List.size_toArray]; omega)
  have ea : its.toArray ++ its2.toArray = (its ++ its2).toArray := by simp
  rw [ea]
  exact ⟨.ref _, _, I.lnew (t' := s.toks) (r.append r2) (by rw [List.length_append]; omega), rfl, q _ I.fresh⟩
/-- nothing changes -/
theorem CW.stay {c : Ct} {H : Hp} {G : AH} {K : W → AH → Prop} {w : W} {v : V} (r : RV H w v) (g : RG c H G) (k : K w G) : CW c H K v H := ⟨w, G, Keep.refl, r, g, k⟩

section
variable {X : Cx} {a b e : Expr} {pos : Pos} {ρ : AS} {G : AH} {K : W → AH → Prop}
theorem q_var {x : Str} {i : Nat} {w : W} (hρ : ρ[i]? = some (some w)) (k : K w G) (hN : X.N[i]? = some x := by rfl) (hv : Vis X.env.scope x := by first | exact Or.inl rfl | exact Or.inr (Or.inl rfl) | exact Or.inr (Or.inr rfl))
    (hd : (x == ("__debug__" : Str)) = false := by decide) (hcd : (x == ("__classdict__" : Str)) = false := by decide) : EQ X (.Name x pos) ρ G K :=
  EQ.of (pe_var hN hv hd hcd) fun σ H rs rg => let ⟨v, h1, h2⟩ := rs.2 i w hρ; ⟨v, h1, .stay h2 rg k⟩
theorem q_int {i : Int} {j : Nat} (k : K (.int i) G) : EQ X (.Constant (.int i) j pos) ρ G K := EQ.of pe_int fun σ H rs rg => CW.stay (w := .int i) rfl rg k
theorem q_bl {i : Bool} {j : Nat} (k : K (.bl i) G) : EQ X (.Constant (.bool i) j pos) ρ G K := EQ.of pe_bl fun σ H rs rg => CW.stay (w := .bl i) rfl rg k
theorem q_non {j : Nat} (k : K .non G) : EQ X (.Constant .none j pos) ρ G K := EQ.of pe_non fun σ H rs rg => CW.stay (w := .non) rfl rg k
theorem q_str {i : Str} {j : Nat} (k : K (.str i) G) : EQ X (.Constant (.str i) j pos) ρ G K := EQ.of pe_str fun σ H rs rg => CW.stay (w := .str i) rfl rg k
theorem q_op {op : Operator} {r : R2} {R : WR} (ho : OpR X (binaryOp op) r) (rr : RR (cc X) r R) (h : EQ X a ρ G fun x G1 => EQ X b ρ G1 fun y G2 => R x y G2 K) : EQ X (.BinOp a op b pos) ρ G K :=
  EQ.of (pe_op ho pe_E pe_E) fun σ H rs rg => ⟨ρ, G, _, h, rs, rg, fun u H1 ⟨x, G1, k1, rx, rg1, hb⟩ => ⟨ρ, G1, _, hb, rs.mono k1, rg1, fun v H2 ⟨y, G2, k2, ry, rg2, hr⟩ =>
    rr x y u v H2 G2 K _ (rx.mono k2) ry rg2 hr fun z H' q => q.pre (k1.trans k2)⟩⟩
theorem q_cmp {op : CmpOp} {r : R2} {R : WR} (ho : OpR X (compareOp op) r) (rr : RR (cc X) r R) (hm : behindInMarks op b = false) (h : EQ X a ρ G fun x G1 => EQ X b ρ G1 fun y G2 => R x y G2 K) : EQ X (.Compare a [op] [b] pos) ρ G K :=
  EQ.of (pe_cmpR ho pe_E pe_E hm) fun σ H rs rg => ⟨ρ, G, _, h, rs, rg, fun u H1 ⟨x, G1, k1, rx, rg1, hb⟩ => ⟨ρ, G1, _, hb, rs.mono k1, rg1, fun v H2 ⟨y, G2, k2, ry, rg2, hr⟩ =>
    rr x y u v H2 G2 K _ (rx.mono k2) ry rg2 hr fun z H' q => q.pre (k1.trans k2)⟩⟩
theorem tst_of {c : Ct} {H H' : Hp} {K : Bool → AH → Prop} {z : V} (h : CW c H (tst K) z H') : ∃ k, z = .bl k ∧ CB c H K k H' := by
  obtain ⟨w, G', k, r, g, q⟩ := h
  cases w with
  | bl b => exact ⟨b, r, G', k, g, q⟩
  | _ => exact q.elim
theorem b_cmp {op : CmpOp} {r : R2} {R : WR} {K : Bool → AH → Prop} (ho : OpR X (compareOp op) r) (rr : RR (cc X) r R) (hm : behindInMarks op b = false) (h : EQ X a ρ G fun x G1 => EQ X b ρ G1 fun y G2 => R x y G2 (tst K)) : BQ X (.Compare a [op] [b] pos) ρ G K :=
  BQ.of (pt_cmpR ho pe_E pe_E hm) fun σ H rs rg => ⟨ρ, G, _, h, rs, rg, fun u H1 ⟨x, G1, k1, rx, rg1, hb⟩ => ⟨ρ, G1, _, hb, rs.mono k1, rg1, fun v H2 ⟨y, G2, k2, ry, rg2, hr⟩ =>
    rr x y u v H2 G2 (tst K) _ (rx.mono k2) ry rg2 hr fun z H' q => tst_of (q.pre (k1.trans k2))⟩⟩
/-- a test that is an expression with a truth value -/
theorem b_val {K : Bool → AH → Prop} (h : EQ X e ρ G (tst K)) (he : ∀ whole, isTrue e X.env whole = (do let v ← whole; standAt e.pos; holding [v] (truthy v)) := by intro _; rfl) : BQ X e ρ G K :=
  BQ.of (pt_val pe_E he) fun σ H rs rg => ⟨ρ, G, _, h, rs, rg, fun u H1 q => tst_of q⟩
theorem b_not {K : Bool → AH → Prop} (h : BQ X a ρ G fun c G1 => K (!c) G1) : BQ X (.UnaryOp .Not a pos) ρ G K :=
  BQ.of (pt_not pt_T) fun σ H rs rg => ⟨ρ, G, _, h, rs, rg, fun c H' ⟨G', k, g, q⟩ => ⟨G', k, g, q⟩⟩
theorem WQ.test {K : Bool → AH → Prop} (h : WQ X e ρ G K) : BQ X e ρ G K := ⟨fun pins s σ H I rs rg => h.run _ pins s σ H I rs rg⟩
theorem w_and1 {K : Bool → AH → Prop} (h : BQ X a ρ G K) : WQ X (.BoolOp .And [a] pos) ρ G K :=
  WQ.of (pw_and1 pt_T) fun σ H rs rg => ⟨ρ, G, _, h, rs, rg, fun c H' q => q⟩
theorem w_or1 {K : Bool → AH → Prop} (h : BQ X a ρ G K) : WQ X (.BoolOp .Or [a] pos) ρ G K :=
  WQ.of (pw_or1 pt_T) fun σ H rs rg => ⟨ρ, G, _, h, rs, rg, fun c H' q => q⟩
theorem w_and {K : Bool → AH → Prop} {rest : List Expr} (h : BQ X a ρ G fun c G1 => ifB c (WQ X (.BoolOp .And (b :: rest) pos) ρ G1 K) (K false G1)) : WQ X (.BoolOp .And (a :: b :: rest) pos) ρ G K :=
  WQ.of (pw_and pt_T pw_W) fun σ H rs rg => ⟨ρ, G, _, h, rs, rg, fun c H' ⟨G', k, g, q⟩ => by
    cases c with
    | true => exact ⟨ρ, G', _, q.h, rs.mono k, g, fun d H2 z => z.pre k⟩
    | false => exact ⟨G', k, g, q.h⟩⟩
theorem w_or {K : Bool → AH → Prop} {rest : List Expr} (h : BQ X a ρ G fun c G1 => ifB c (K true G1) (WQ X (.BoolOp .Or (b :: rest) pos) ρ G1 K)) : WQ X (.BoolOp .Or (a :: b :: rest) pos) ρ G K :=
  WQ.of (pw_or pt_T pw_W) fun σ H rs rg => ⟨ρ, G, _, h, rs, rg, fun c H' ⟨G', k, g, q⟩ => by
    cases c with
    | false => exact ⟨ρ, G', _, q.h, rs.mono k, g, fun d H2 z => z.pre k⟩
    | true => exact ⟨G', k, g, q.h⟩⟩
theorem q_one {op : BoolOp} (h : EQ X a ρ G K) : EQ X (.BoolOp op [a] pos) ρ G K := EQ.of (pe_one pe_E) fun σ H rs rg => ⟨ρ, G, _, h, rs, rg, fun c H' q => q⟩
theorem q_and {rest : List Expr} (h : EQ X a ρ G (tst fun c G1 => ifB c (EQ X (.BoolOp .And (b :: rest) pos) ρ G1 K) (K (.bl false) G1))) : EQ X (.BoolOp .And (a :: b :: rest) pos) ρ G K :=
  EQ.of (pe_and pe_E pe_E) fun σ H rs rg => ⟨ρ, G, _, h, rs, rg, fun u H' q => by
    obtain ⟨c, e, G', k, g, q⟩ := tst_of q
    refine ⟨c, e, ?_⟩
    cases c with
    | true => exact ⟨ρ, G', _, q.h, rs.mono k, g, fun d H2 z => z.pre k⟩
    | false => exact ⟨.bl false, G', k, rfl, g, q.h⟩⟩
theorem q_or {rest : List Expr} (h : EQ X a ρ G (tst fun c G1 => ifB c (K (.bl true) G1) (EQ X (.BoolOp .Or (b :: rest) pos) ρ G1 K))) : EQ X (.BoolOp .Or (a :: b :: rest) pos) ρ G K :=
  EQ.of (pe_or pe_E pe_E) fun σ H rs rg => ⟨ρ, G, _, h, rs, rg, fun u H' q => by
    obtain ⟨c, e, G', k, g, q⟩ := tst_of q
    refine ⟨c, e, ?_⟩
    cases c with
    | false => exact ⟨ρ, G', _, q.h, rs.mono k, g, fun d H2 z => z.pre k⟩
    | true => exact ⟨.bl true, G', k, rfl, g, q.h⟩⟩
theorem q_not (h : EQ X a ρ G (tst fun c G1 => K (.bl (!c)) G1)) : EQ X (.UnaryOp .Not a pos) ρ G K :=
  EQ.of (pe_not pe_E) fun σ H rs rg => ⟨ρ, G, _, h, rs, rg, fun u H' q => by
    obtain ⟨c, e, G', k, g, q⟩ := tst_of q
    exact ⟨c, e, .bl (!c), G', k, rfl, g, q⟩⟩
theorem q_if {c : Expr} (h : BQ X c ρ G fun d G1 => ifB d (EQ X a ρ G1 K) (EQ X b ρ G1 K)) : EQ X (.IfExp c a b pos) ρ G K :=
  EQ.of (pe_ifExp pt_T pe_E pe_E) fun σ H rs rg => ⟨ρ, G, _, h, rs, rg, fun c H' ⟨G', k, g, q⟩ => by
    cases c with
    | true => exact ⟨ρ, G', _, q.h, rs.mono k, g, fun d H2 z => z.pre k⟩
    | false => exact ⟨ρ, G', _, q.h, rs.mono k, g, fun d H2 z => z.pre k⟩⟩

/-! ### arguments, displays -/
theorem a_nil {K : List W → AH → Prop} (k : K [] G) : AQ X [] ρ G K := AQ.of pa_nil fun σ H rs rg => ⟨[], G, Keep.refl, RVs.nil, rg, rfl, k⟩
theorem a_cons {K : List W → AH → Prop} {es : List Expr} (h : EQ X e ρ G fun w G1 => AQ X es ρ G1 fun ws G2 => K (w :: ws) G2) (hs : starEach (e :: es) X.env = (false, eval e X.env) :: starEach es X.env := by rfl) : AQ X (e :: es) ρ G K :=
  AQ.of (pa_cons pe_E pa_A hs) fun σ H rs rg => ⟨ρ, G, _, h, rs, rg, fun u H1 ⟨x, G1, k1, rx, rg1, hb⟩ => ⟨ρ, G1, _, hb, rs.mono k1, rg1, fun v H2 ⟨ws, G2, k2, ry, rg2, hl, q⟩ =>
    ⟨x :: ws, G2, k1.trans k2, .cons (rx.mono k2) ry, rg2, by rw [List.length_cons, hl, List.length_cons], q⟩⟩⟩
theorem small_ok {n m : Nat} (e : n = m) (h : Nat.ble m 100000 = true) : n ≤ sizeLine := by
  subst e
  exact Nat.le_trans (Nat.le_of_ble_eq_true h) (by decide)
theorem q_tup {es : List Expr} {x1 : Nat} (h : AQ X es ρ G fun ws G1 => K (.tup ws) G1) (hn : Nat.ble es.length 100000 = true := by rfl) : EQ X (.Tuple es x1 pos) ρ G K :=
  EQ.of (pe_tup pa_A) fun σ H rs rg => ⟨ρ, G, _, h, rs, rg, fun vs H1 ⟨ws, G1, k1, rx, rg1, hl, q⟩ =>
    ⟨small_ok (rx.length.symm.trans hl) hn, fun p hp => ⟨.tup ws, G1, k1.trans (Keep.new hp), ⟨p, vs, rfl, upd_same, rx.mono (Keep.new hp)⟩, rg1.tup hp, q⟩⟩⟩
theorem q_lst {es : List Expr} (h : AQ X es ρ G fun ws G1 => ∀ p, G1 p = none → K (.ref p) (aup G1 p (.lst ws))) (hn : Nat.ble es.length 100000 = true := by rfl) : EQ X (.List es pos) ρ G K :=
  EQ.of (pe_lst pa_A) fun σ H rs rg => ⟨ρ, G, _, h, rs, rg, fun vs H1 ⟨ws, G1, k1, rx, rg1, hl, q⟩ =>
    ⟨small_ok (rx.length.symm.trans hl) hn, fun p hp => ⟨.ref p, _, k1.trans (Keep.new hp), rfl, rg1.newL hp rx, q p (rg1.free hp)⟩⟩⟩
end

/-! ### + -/
def fAdd : WR := fun x y G K => match x, y with
  | .int i, .int j => K (.int (i + j)) G
  | .str i, .str j => i.length + j.length ≤ sizeLine ∧ K (.str (i ++ j)) G
  | .tup xs, .tup ys => xs.length + ys.length ≤ sizeLine ∧ K (.tup (xs ++ ys)) G
  | x, y => ∃ xs ys, LsA G x xs ∧ LsA G y ys ∧ xs.length + ys.length ≤ sizeLine ∧ ∀ p, G p = none → K (.ref p) (aup G p (.lst (xs ++ ys)))
def rAddU (K : PySem.W.Frag) : R2 := fun x y H Q => rI0 (fun i j => .int (i + j)) x y H Q ∨ (∃ i j, x = .str i ∧ y = .str j ∧ i.length + j.length ≤ sizeLine ∧ Q (.str (i ++ j)) H) ∨ rCatA K x y H Q ∨ rCatR x y H Q
theorem op_addU {X : Cx} : OpR X (binaryOp .Add) (rAddU X.K) := op_add.or (op_add_str.or (op_catA.or op_catR))
theorem rr_add {c : Ct} : RR c (rAddU c.K) fAdd := by
  intro x y u v H G K Q rx ry g h q
  have deep : (∃ xs ys, LsA G x xs ∧ LsA G y ys ∧ xs.length + ys.length ≤ sizeLine ∧ ∀ p, G p = none → K (.ref p) (aup G p (.lst (xs ++ ys)))) → rAddU c.K u v H Q := by
    rintro ⟨xs, ys, ha, hb, hl, k⟩
    obtain ⟨a, vs, e1, h1, r1⟩ := ha.rd g rx
    obtain ⟨b, us, e2, h2, r2⟩ := hb.rd g ry
    exact .inr (.inr (.inr ⟨a, b, vs, us, e1, e2, h1, h2, by rw [← r1.length, ← r2.length]; exact hl, fun p hp => q _ _ ⟨.ref p, _, Keep.new hp, rfl, g.newL hp (r1.append r2), k p (g.free hp)⟩⟩))
  cases x with
  | int i => cases y with
    | int j =>
      have e1 : u = .int i := rx
      have e2 : v = .int j := ry
      subst e1 e2
      exact .inl ⟨i, j, rfl, rfl, q _ _ (.stay (w := .int (i + j)) rfl g h)⟩
    | _ => exact deep h
  | str i => cases y with
    | str j =>
      have e1 : u = .str i := rx
      have e2 : v = .str j := ry
      subst e1 e2
      exact .inr (.inl ⟨i, j, rfl, rfl, h.1, q _ _ (.stay (w := .str (i ++ j)) rfl g h.2)⟩)
    | _ => exact deep h
  | tup xs => cases y with
    | tup ys =>
      obtain ⟨a, vs, rfl, ha, r1⟩ := rx
      obtain ⟨b, us, rfl, hb, r2⟩ := ry
      refine .inr (.inr (.inl ⟨a, b, vs, us, rfl, rfl, SqT.of ha, SqT.of hb, by rw [← r1.length, ← r2.length]; exact h.1, fun e => ?_, fun _ e => ?_, fun _ _ p hp => ?_⟩))
      · subst e
        have e : xs = [] := List.length_eq_zero_iff.mp r1.length
        subst e
        exact q _ _ (.stay (w := .tup ys) ⟨b, us, rfl, hb, r2⟩ g h.2)
      · subst e
        have e : ys = [] := List.length_eq_zero_iff.mp r2.length
        subst e
        refine q _ _ (.stay (w := .tup xs) ⟨a, vs, rfl, ha, r1⟩ g ?_)
        have := h.2
        rw [List.append_nil] at this
        exact this
      · exact q _ _ ⟨.tup (xs ++ ys), G, Keep.new hp, ⟨p, _, rfl, upd_same, (r1.append r2).mono (Keep.new hp)⟩, g.tup hp, h.2⟩
    | _ => exact deep h
  | _ => exact deep h
/-! ### whole numbers -/
def fI (C : Int → Int → Prop) (f : Int → Int → Int) : WR := fun x y G K => match x, y with
  | .int i, .int j => C i j ∧ K (.int (f i j)) G
  | _, _ => False
def fI0 (f : Int → Int → Int) : WR := fun x y G K => match x, y with
  | .int i, .int j => K (.int (f i j)) G
  | _, _ => False
def fIB (f : Int → Int → Bool) : WR := fun x y G K => match x, y with
  | .int i, .int j => K (.bl (f i j)) G
  | _, _ => False
theorem rr_I {c : Ct} {C : Int → Int → Prop} {f : Int → Int → Int} : RR c (rI C fun i j => .int (f i j)) (fI C f) := by
  intro x y u v H G K Q rx ry g h q
  cases x with
  | int i => cases y with
    | int j =>
      have e1 : u = .int i := rx
      have e2 : v = .int j := ry
      subst e1 e2
      exact ⟨i, j, rfl, rfl, h.1, q _ _ (.stay (w := .int (f i j)) rfl g h.2)⟩
    | _ => exact h.elim
  | _ => exact h.elim
theorem rr_I0 {c : Ct} {f : Int → Int → Int} : RR c (rI0 fun i j => .int (f i j)) (fI0 f) := by
  intro x y u v H G K Q rx ry g h q
  cases x with
  | int i => cases y with
    | int j =>
      have e1 : u = .int i := rx
      have e2 : v = .int j := ry
      subst e1 e2
      exact ⟨i, j, rfl, rfl, q _ _ (.stay (w := .int (f i j)) rfl g h)⟩
    | _ => exact h.elim
  | _ => exact h.elim
theorem rr_IB {c : Ct} {f : Int → Int → Bool} : RR c (rI0 fun i j => .bl (f i j)) (fIB f) := by
  intro x y u v H G K Q rx ry g h q
  cases x with
  | int i => cases y with
    | int j =>
      have e1 : u = .int i := rx
      have e2 : v = .int j := ry
      subst e1 e2
      exact ⟨i, j, rfl, rfl, q _ _ (.stay (w := .bl (f i j)) rfl g h)⟩
    | _ => exact h.elim
  | _ => exact h.elim
/-- * of numbers, list * number -/
def fMul : WR := fun x y G K => match x, y with
  | .int i, .int j => IntMulOk i j ∧ K (.int (i * j)) G
  | .ref a, .int k => ∃ xs, G a = some (.lst xs) ∧ k < 2 ^ 31 ∧ -(2 ^ 31) < k ∧ xs.length * k.toNat ≤ sizeLine ∧ ∀ p, G p = none → K (.ref p) (aup G p (.lst (List.replicate k.toNat xs).flatten))
  | _, _ => False
theorem RVs.rep {H : Hp} {ws : List W} {vs : List V} (h : RVs H ws vs) : ∀ k : Nat, RVs H (List.replicate k ws).flatten (List.replicate k vs).flatten
  | 0 => RVs.nil
  | k + 1 => by
    rw [List.replicate_succ, List.replicate_succ, List.flatten_cons, List.flatten_cons]
    exact h.append (RVs.rep h k)
theorem op_mulI {X : Cx} : OpR X (binaryOp .Mult) (rI IntMulOk fun i j => .int (i * j)) := opI fun _ _ _ _ _ _ _ hc q => mul_int q hc
theorem rr_mul {c : Ct} : RR c (fun x y H Q => rI IntMulOk (fun i j => .int (i * j)) x y H Q ∨ rRep x y H Q) fMul := by
  intro x y u v H G K Q rx ry g h q
  cases x with
  | int i => cases y with
    | int j =>
      have e1 : u = .int i := rx
      have e2 : v = .int j := ry
      subst e1 e2
      exact .inl ⟨i, j, rfl, rfl, h.1, q _ _ (.stay (w := .int (i * j)) rfl g h.2)⟩
    | _ => exact h.elim
  | ref a => cases y with
    | int k =>
      have e1 : u = .ref a := rx
      have e2 : v = .int k := ry
      subst e1 e2
      obtain ⟨xs, ha, h1, h2, hl, kk⟩ := h
      obtain ⟨vs, hv, r⟩ := g.lst ha
      exact .inr ⟨a, k, vs, rfl, rfl, hv, by omega, by omega, by rw [← r.length]; exact hl, fun p hp => q _ _ ⟨.ref p, _, Keep.new hp, rfl, g.newL hp (r.rep _), kk p (g.free hp)⟩⟩
    | _ => exact h.elim
  | _ => exact h.elim
def fSub : WR := fun x y G K => match x, y with
  | .int i, .int j => K (.int (i - j)) G
  | _, _ => False
def fFdiv : WR := fun x y G K => match x, y with
  | .int i, .int j => CDivW i j ∧ K (.int (i / j)) G
  | _, _ => False
def fMod : WR := fun x y G K => match x, y with
  | .int i, .int j => 0 < j ∧ K (.int (i % j)) G
  | _, _ => False
def fPow : WR := fun x y G K => match x, y with
  | .int i, .int j => CPow i j ∧ K (.int (i ^ j.toNat)) G
  | _, _ => False
theorem fSub_i {x y : W} {G : AH} {K : W → AH → Prop} (h : fSub x y G K) : fI0 (fun i j => i - j) x y G K := by
  cases x <;> cases y <;> exact h
theorem fFdiv_i {x y : W} {G : AH} {K : W → AH → Prop} (h : fFdiv x y G K) : fI CDivW (fun i j => i / j) x y G K := by
  cases x <;> cases y <;> exact h
theorem fMod_i {x y : W} {G : AH} {K : W → AH → Prop} (h : fMod x y G K) : fI (fun _ j => 0 < j) (fun i j => i % j) x y G K := by
  cases x <;> cases y <;> exact h
theorem fPow_i {x y : W} {G : AH} {K : W → AH → Prop} (h : fPow x y G K) : fI CPow (fun i j => i ^ j.toNat) x y G K := by
  cases x <;> cases y <;> exact h
section
variable {X : Cx} {a b e : Expr} {pos : Pos} {ρ : AS} {G : AH} {K : W → AH → Prop} {KB : Bool → AH → Prop}
theorem q_add (h : EQ X a ρ G fun x G1 => EQ X b ρ G1 fun y G2 => fAdd x y G2 K) : EQ X (.BinOp a .Add b pos) ρ G K := q_op op_addU rr_add h
theorem q_sub (h : EQ X a ρ G fun x G1 => EQ X b ρ G1 fun y G2 => fSub x y G2 K) : EQ X (.BinOp a .Sub b pos) ρ G K := q_op op_sub rr_I0 (h.mono fun _ _ h => h.mono fun _ _ h => fSub_i h)
theorem q_mul (h : EQ X a ρ G fun x G1 => EQ X b ρ G1 fun y G2 => fMul x y G2 K) : EQ X (.BinOp a .Mult b pos) ρ G K := q_op (op_mulI.or op_rep) rr_mul h
theorem q_fdiv (h : EQ X a ρ G fun x G1 => EQ X b ρ G1 fun y G2 => fFdiv x y G2 K) : EQ X (.BinOp a .FloorDiv b pos) ρ G K := q_op op_fdivW rr_I (h.mono fun _ _ h => h.mono fun _ _ h => fFdiv_i h)
theorem q_mod (h : EQ X a ρ G fun x G1 => EQ X b ρ G1 fun y G2 => fMod x y G2 K) : EQ X (.BinOp a .Mod b pos) ρ G K := q_op op_mod rr_I (h.mono fun _ _ h => h.mono fun _ _ h => fMod_i h)
theorem q_pow (h : EQ X a ρ G fun x G1 => EQ X b ρ G1 fun y G2 => fPow x y G2 K) : EQ X (.BinOp a .Pow b pos) ρ G K := q_op op_pow rr_I (h.mono fun _ _ h => h.mono fun _ _ h => fPow_i h)
theorem q_neg (h : EQ X a ρ G fun x G1 => onI x fun i => K (.int (-i)) G1) : EQ X (.UnaryOp .USub a pos) ρ G K :=
  EQ.of (pe_un un_neg pe_E) fun σ H rs rg => ⟨ρ, G, _, h, rs, rg, fun u H1 ⟨x, G1, k1, rx, rg1, q⟩ => by
    cases x with
    | int i => exact ⟨i, rx, .int (-i), G1, k1, rfl, rg1, q⟩
    | _ => exact q.elim⟩
def fLt : WR := fIB fun i j => decide (i < j)
def fLe : WR := fIB fun i j => decide (i ≤ j)
def fGt : WR := fIB fun i j => decide (j < i)
def fGe : WR := fIB fun i j => decide (j ≤ i)
theorem q_lt (h : EQ X a ρ G fun x G1 => EQ X b ρ G1 fun y G2 => fLt x y G2 K) : EQ X (.Compare a [.Lt] [b] pos) ρ G K := q_cmp op_lt rr_IB (nomark _) h
theorem q_le (h : EQ X a ρ G fun x G1 => EQ X b ρ G1 fun y G2 => fLe x y G2 K) : EQ X (.Compare a [.LtE] [b] pos) ρ G K := q_cmp op_le rr_IB (nomark _) h
theorem q_gt (h : EQ X a ρ G fun x G1 => EQ X b ρ G1 fun y G2 => fGt x y G2 K) : EQ X (.Compare a [.Gt] [b] pos) ρ G K := q_cmp op_gt rr_IB (nomark _) h
theorem q_ge (h : EQ X a ρ G fun x G1 => EQ X b ρ G1 fun y G2 => fGe x y G2 K) : EQ X (.Compare a [.GtE] [b] pos) ρ G K := q_cmp op_ge rr_IB (nomark _) h
theorem b_lt (h : EQ X a ρ G fun x G1 => EQ X b ρ G1 fun y G2 => fLt x y G2 (tst KB)) : BQ X (.Compare a [.Lt] [b] pos) ρ G KB := b_cmp op_lt rr_IB (nomark _) h
theorem b_le (h : EQ X a ρ G fun x G1 => EQ X b ρ G1 fun y G2 => fLe x y G2 (tst KB)) : BQ X (.Compare a [.LtE] [b] pos) ρ G KB := b_cmp op_le rr_IB (nomark _) h
theorem b_gt (h : EQ X a ρ G fun x G1 => EQ X b ρ G1 fun y G2 => fGt x y G2 (tst KB)) : BQ X (.Compare a [.Gt] [b] pos) ρ G KB := b_cmp op_gt rr_IB (nomark _) h
theorem b_ge (h : EQ X a ρ G fun x G1 => EQ X b ρ G1 fun y G2 => fGe x y G2 (tst KB)) : BQ X (.Compare a [.GtE] [b] pos) ρ G KB := b_cmp op_ge rr_IB (nomark _) h
end
end AL
namespace AL
open PySem PySem.Spec L2
open PyProof.Rows hiding St

/-! ### statements -/
section
variable {X : Cx} {a b e : Expr} {pos : Pos} {ρ : AS} {G : AH} {K : W → AH → Prop} {A : AEnds} {st : Stmt} {rest : List Stmt}
theorem DImp.refl {D : Ends} : DImp D D := ⟨fun _ _ h => h, fun _ _ h => h, fun _ _ h => h, fun _ _ h => h⟩
theorem s_nil (k : A.nx ρ G) : SQ X [] ρ G A := SQ.of pss_nil fun σ H rs rg => ⟨ρ, G, Keep.refl, rs, rg, k⟩
theorem s_cons (h : S1 X st ρ G { A with nx := fun ρ' G' => SQ X rest ρ' G' A }) : SQ X (st :: rest) ρ G A :=
  SQ.of (pss_cons ps_S pss_S) fun σ H rs rg => ⟨ρ, G, _, h, rs, rg, fun σ' H' ⟨ρ', G', k, rs', rg', q⟩ => ⟨ρ', G', A, q, rs', rg', CD.pre k⟩, fun _ _ z => z, fun _ _ z => z, fun _ _ z => z⟩
theorem s_pass (k : A.nx ρ G) : S1 X (.Pass pos) ρ G A := S1.of ps_pass fun σ H rs rg => ⟨ρ, G, Keep.refl, rs, rg, k⟩
theorem s_break (k : A.bk ρ G) : S1 X (.Break pos) ρ G A := S1.of ps_break fun σ H rs rg => ⟨ρ, G, Keep.refl, rs, rg, k⟩
theorem s_cont (k : A.ct ρ G) : S1 X (.Continue pos) ρ G A := S1.of ps_continue fun σ H rs rg => ⟨ρ, G, Keep.refl, rs, rg, k⟩
theorem s_expr (h : EQ X e ρ G fun _ G1 => A.nx ρ G1) (hs : swapsWith e none pos.line X.env = pure false := by rfl) : S1 X (.Expr e pos) ρ G A :=
  S1.of (ps_expr pe_E hs) fun σ H rs rg => ⟨ρ, G, _, h, rs, rg, fun u H1 ⟨x, G1, k1, rx, rg1, q⟩ => ⟨ρ, G1, k1, rs.mono k1, rg1, q⟩⟩
theorem s_ret (h : EQ X e ρ G A.rt) : S1 X (.Return (some e) pos) ρ G A := S1.of (ps_ret pe_E) fun σ H rs rg => ⟨ρ, G, _, h, rs, rg, fun u H1 q => q⟩
theorem s_retN (h : A.rt .non G) : S1 X (.Return none pos) ρ G A := S1.of ps_retN fun σ H rs rg => CW.stay (w := .non) rfl rg h
theorem s_if {c : Expr} {t u : List Stmt} (h : BQ X c ρ G fun d G1 => ifB d (SQ X t ρ G1 A) (SQ X u ρ G1 A)) : S1 X (.If c t u pos) ρ G A :=
  S1.of (ps_if pt_T pss_S pss_S) fun σ H rs rg => ⟨ρ, G, _, h, rs, rg, fun d H1 ⟨G1, k1, rg1, q⟩ => by
    cases d with
    | true => exact ⟨ρ, G1, A, q.h, rs.mono k1, rg1, CD.pre k1⟩
    | false => exact ⟨ρ, G1, A, q.h, rs.mono k1, rg1, CD.pre k1⟩⟩
/-- the state behind a statement told anew -/
theorem s_cut {P : AS → AH → Prop} (h : S1 X st ρ G { A with nx := P }) (k : ∀ ρ' G', P ρ' G' → A.nx ρ' G') : S1 X st ρ G A := h.mono k (fun _ _ z => z) (fun _ _ z => z) (fun _ _ z => z)

/-! ### freezing: a list that is not changed any more is held by value -/
section
variable {X : Cx} {e : Expr} {es : List Stmt} {ρ : AS} {G : AH} {K : W → AH → Prop} {A : AEnds}
theorem RG.lock {c : Ct} {H : Hp} {G : AH} {a : Addr} {od : Obj} {vs : List V} (g : RG c H G) (h : H a = some (.lst vs)) : Keep H (upd H a (.frz od (.lst vs))) ∧ RG c (upd H a (.frz od (.lst vs))) (adel G a) := by
  have k : Keep H (upd H a (.frz od (.lst vs))) := Keep.mut h trivial
  refine ⟨k, fun q o e => ?_⟩
  by_cases z : q = a
  · subst z; unfold adel at e; rw [if_pos rfl] at e; cases e
  · rw [adel_ne z] at e
    exact (g q o e).at (upd_ne z) k
def frz (K : W → AH → Prop) : W → AH → Prop := fun v G => match v with
  | .ref p => ∃ ws, G p = some (.lst ws) ∧ K (.lst ws) (adel G p)
  | _ => False
theorem q_v (h : EQ X e ρ G (frz K)) : EQ X e ρ G K := ⟨fun pins s σ H I rs rg => thn (h.run pins s σ H I rs rg) fun u s' ⟨v, H', I', r, w, G', k, rw', rg', q⟩ => by
  cases w with
  | ref p =>
    obtain ⟨ws, hp, q⟩ := q
    obtain ⟨vs, hv, rr⟩ := rg'.lst hp
    obtain ⟨od, I2⟩ := I'.lock hv trivial
    obtain ⟨k2, rg2⟩ := rg'.lock (od := od) hv
    exact ⟨v, _, I2, r, .lst ws, _, k.trans k2, ⟨p, vs, rw', ⟨od, upd_same⟩, rr.mono k2⟩, rg2, q⟩
  | _ => exact q.elim⟩
theorem frz_new {p : Addr} {ws : List W} (hp : G p = none) (k : K (.lst ws) G) : frz K (.ref p) (aup G p (.lst ws)) := ⟨ws, aup_same, by rw [adel_aup hp]; exact k⟩
theorem RS.setW {H : Hp} {σ : St} {w' : W} (h : RS H σ ρ) (i : Nat) (q : ∀ v, σ[i]? = some (some v) → RV H w' v) (hi : ∃ v : V, σ[i]? = some (some v)) : RS H σ (ρ.set i (some w')) := by
  refine ⟨by rw [List.length_set]; exact h.1, fun j w e => ?_⟩
  by_cases z : i = j
  · subst z
    obtain ⟨v, hv⟩ := hi
    by_cases l : i < ρ.length
    · rw [List.getElem?_set_self l] at e; cases e
      exact ⟨v, hv, q v hv⟩
    · rw [List.getElem?_eq_none (by simpa using l)] at e; cases e
  · rw [List.getElem?_set_ne z] at e
    exact h.2 j w e
/-- the list in the i-th slot -/
theorem s_frz (i : Nat) {a : Addr} {ws : List W} (hρ : ρ[i]? = some (some (.ref a))) (ha : G a = some (.lst ws)) (h : SQ X es (ρ.set i (some (.lst ws))) (adel G a) A) : SQ X es ρ G A := ⟨fun pins s σ H I rs rg => by
  obtain ⟨vs, hv, rr⟩ := rg.lst ha
  obtain ⟨od, I2⟩ := I.lock hv trivial
  obtain ⟨k2, rg2⟩ := rg.lock (od := od) hv
  obtain ⟨v, h1, h2⟩ := rs.2 i _ hρ
  have rs2 : RS (upd H a (.frz od (.lst vs))) σ (ρ.set i (some (.lst ws))) := (rs.mono k2).setW i (fun v' hv' => by
    rw [h1] at hv'; cases hv'
    exact ⟨a, vs, h2, ⟨od, upd_same⟩, rr.mono k2⟩) ⟨v, h1⟩
  exact thn (h.run pins s σ _ I2 rs2 rg2) fun u s' q => SP.imp (D := CD (cc X) _ A) q (CD.pre k2)⟩
/-- the list in the j-th place of the list at b -/
theorem s_frzIn {a b : Addr} {ws us : List W} (j : Nat) (hb : G b = some (.lst us)) (hj : us[j]? = some (.ref a)) (ha : G a = some (.lst ws)) (hab : b ≠ a) (h : SQ X es ρ (aup (adel G a) b (.lst (us.set j (.lst ws)))) A) : SQ X es ρ G A := ⟨fun pins s σ H I rs rg => by
  obtain ⟨vs, hv, rr⟩ := rg.lst ha
  obtain ⟨od, I2⟩ := I.lock hv trivial
  obtain ⟨k2, rg2⟩ := rg.lock (od := od) hv
  obtain ⟨vb, hvb, rb⟩ := rg.lst hb
  obtain ⟨v, h1, h2⟩ := rb.get hj
  have e : vb.set j v = vb := by
    obtain ⟨l, e⟩ := List.getElem?_eq_some_iff.mp h1
    rw [← e]; exact List.set_getElem_self l
  have q2 : RVs (upd H a (.frz od (.lst vs))) (us.set j (.lst ws)) vb := by
    have := (rb.mono k2).set (w := .lst ws) (v := v) ⟨a, vs, h2, ⟨od, upd_same⟩, rr.mono k2⟩ j
    rw [e] at this; exact this
  have rg3 : RG (cc X) (upd H a (.frz od (.lst vs))) (aup (adel G a) b (.lst (us.set j (.lst ws)))) := fun q o e => by
    by_cases z : q = b
    · subst z; rw [aup_same] at e; cases e
      exact ⟨vb, by rw [upd_ne hab]; exact hvb, q2⟩
    · rw [aup_ne z] at e; exact rg2 q o e
  exact thn (h.run pins s σ _ I2 (rs.mono k2) rg3) fun u s' q => SP.imp (D := CD (cc X) _ A) q (CD.pre k2)⟩
/-- returned by value -/
theorem s_retV {pos : Pos} (h : EQ X e ρ G (frz A.rt)) : S1 X (.Return (some e) pos) ρ G A := s_ret (q_v h)
end

/-! ### targets -/
theorem g_name {x : Str} {i : Nat} {w : W} {K : AS → AH → Prop} (hN : X.N.Nodup) (k : K (ρ.set i (some w)) G) (hi : X.N[i]? = some x := by rfl) (hx : Loc X.env.scope x := by first | exact .inl rfl | exact .inr rfl)
    (hf : X.fn x = true ∨ X.env.scope.names.lookup x = some .local := by first | exact .inl rfl | exact .inr rfl) : GQ X (.Name x pos) w ρ G K :=
  GQ.of (pg_name hN hi hx hf) fun v σ H rs rg rv => ⟨_, G, Keep.refl, rs.set i rv, rg, k⟩
theorem gs_nil {K : AS → AH → Prop} (k : K ρ G) : GsQ X [] [] ρ G K := GsQ.of pgs_nil fun v σ H rs rg rv => ⟨rv, ρ, G, Keep.refl, rs, rg, k⟩
theorem gs_cons {w : W} {ws : List W} {es : List Expr} {K : AS → AH → Prop} (h : GQ X e w ρ G fun ρ1 G1 => GsQ X es ws ρ1 G1 K)
    (hs : (assignEach (e :: es) X.env).map (·.2) = assign e X.env :: (assignEach es X.env).map (·.2) := by rfl) : GsQ X (e :: es) (w :: ws) ρ G K :=
  GsQ.of (pgs_cons pg_G pgs_G hs) fun v σ H rs rg ⟨v1, vr, e1, r1, r2⟩ => ⟨v1, vr, e1, w, ρ, G, _, h, rs, rg, r1, fun σ' H' ⟨ρ', G', k, rs', rg', q⟩ => ⟨ws, ρ', G', K, q, rs', rg', r2.mono k, fun _ _ z => z.pre k⟩⟩
def onT (z : W) (k : List W → Prop) : Prop := match z with
  | .tup xs => k xs
  | _ => False
theorem g_tup {es : List Expr} {kk n : Nat} {ws : List W} {K : AS → AH → Prop} (hl : ws.length = n) (h : GsQ X es ws ρ G K) (hc : X.calm = true := by rfl)
    (hn : (assignEach es X.env).length = n := by rfl) (hst : (assignEach es X.env).findIdx? (·.1) = none := by rfl) : GQ X (.Tuple es kk pos) (.tup ws) ρ G K :=
  GQ.of (pg_tup hc pgs_G hn hst) fun v σ H rs rg ⟨a, vs, e, ha, r⟩ => ⟨a, vs, e, SqT.of ha, r.length.symm.trans hl, ws, ρ, G, K, h, rs, rg, r, fun _ _ z => z⟩
/-- o[i] = .. : set RS': what is asked of o, i, the value -/
def SetR (c : Ct) (t : TSet) (R : W → W → W → AH → (AH → Prop) → Prop) : Prop := ∀ o i w u j v H G K (Q : Hp → Prop), RV H o u → RV H i j → RV H w v → RG c H G → R o i w G K → (∀ H' G', Keep H H' → RG c H' G' → K G' → Q H') → t u j v H Q
theorem g_sub {o i : Expr} {w : W} {t : TSet} {R : W → W → W → AH → (AH → Prop) → Prop} {K : AS → AH → Prop} (hs : PSet X t) (rr : SetR (cc X) t R) (h : EQ X o ρ G fun x G1 => EQ X i ρ G1 fun y G2 => R x y w G2 (K ρ))
    (ha : ∀ v, assign (.Subscript o i pos) X.env v = (do
      let ov ← holding [v] (eval o X.env)
      let iv ← holding [v, ov] (eval i X.env)
      standAt pos
      holding [v, ov, iv] (setItem ov iv v)
      release [v, ov, iv] []) := by intro _; rfl) : GQ X (.Subscript o i pos) w ρ G K :=
  GQ.of (pg_sub pe_E pe_E hs ha) fun v σ H rs rg rv => ⟨ρ, G, _, h, rs, rg, fun u H1 ⟨x, G1, k1, rx, rg1, hb⟩ => ⟨ρ, G1, _, hb, rs.mono k1, rg1, fun j H2 ⟨y, G2, k2, ry, rg2, hr⟩ =>
    rr x y w u j v H2 G2 _ _ (rx.mono k2) ry (rv.mono (k1.trans k2)) rg2 hr fun H' G' k3 g3 q => ⟨ρ, G', (k1.trans k2).trans k3, (rs.mono (k1.trans k2)).mono k3, g3, q⟩⟩⟩
/-- a list's item -/
def fSet : W → W → W → AH → (AH → Prop) → Prop := fun o i w G K => match o, i with
  | .ref a, .int k => ∃ xs j, G a = some (.lst xs) ∧ ixN xs.length k = some j ∧ K (aup G a (.lst (xs.set j w)))
  | _, _ => False
theorem sr_list {c : Ct} : SetR c rSetL fSet := by
  intro o i w u j v H G K Q ro ri rw' g h q
  cases o with
  | ref a => cases i with
    | int k =>
      have e1 : u = .ref a := ro
      have e2 : j = .int k := ri
      subst e1 e2
      obtain ⟨xs, jj, ha, hj, kk⟩ := h
      obtain ⟨vs, hv, r⟩ := g.lst ha
      obtain ⟨k3, g3⟩ := g.mutL hv (r.set rw' jj)
      exact ⟨a, vs, k, jj, rfl, rfl, hv, by rw [← r.length]; exact hj, q _ _ k3 g3 kk⟩
    | _ => exact h.elim
  | _ => exact h.elim
theorem g_ix {o i : Expr} {w : W} {K : AS → AH → Prop} (h : EQ X o ρ G fun x G1 => EQ X i ρ G1 fun y G2 => fSet x y w G2 (K ρ))
    (ha : ∀ v, assign (.Subscript o i pos) X.env v = (do
      let ov ← holding [v] (eval o X.env)
      let iv ← holding [v, ov] (eval i X.env)
      standAt pos
      holding [v, ov, iv] (setItem ov iv v)
      release [v, ov, iv] []) := by intro _; rfl) : GQ X (.Subscript o i pos) w ρ G K := g_sub set_list sr_list h ha
/-- target = value -/
theorem s_asg {tg : Expr} (h : EQ X e ρ G fun w G1 => GQ X tg w ρ G1 A.nx) (hs : swapsWithSole [tg] e pos.line X.env = pure false := by rfl) (hw : swappedStores [tg] e X.env = pure none := by rfl)
    (h1 : (assignEach [tg] X.env).map (·.2) = [assign tg X.env] := by rfl) : S1 X (.Assign [tg] e pos) ρ G A :=
  S1.of (ps_asg pe_E pg_G hs hw h1) fun σ H rs rg => ⟨ρ, G, _, h, rs, rg, fun u H1 ⟨x, G1, k1, rx, rg1, q⟩ => ⟨x, ρ, G1, _, q, rs.mono k1, rg1, rx, fun σ' H' z => z.pre k1⟩⟩
/-- name = value -/
theorem s_set {x : Str} {i : Nat} {pos' : Pos} (hN : X.N.Nodup) (h : EQ X e ρ G fun w G1 => A.nx (ρ.set i (some w)) G1) (hi : X.N[i]? = some x := by rfl) (hx : Loc X.env.scope x := by first | exact .inl rfl | exact .inr rfl)
    (hs : swapsWith e (some (.Name x pos')) pos.line X.env = pure false := by rfl) (hf : X.fn x = true ∨ X.env.scope.names.lookup x = some .local := by first | exact .inl rfl | exact .inr rfl) : S1 X (.Assign [.Name x pos'] e pos) ρ G A :=
  S1.of (ps_set hN hi hx pe_E hs hf) fun σ H rs rg => ⟨ρ, G, _, h, rs, rg, fun u H1 ⟨w, G1, k1, rx, rg1, q⟩ => ⟨_, G1, k1, (rs.mono k1).set i rx, rg1, q⟩⟩
/-- a, b = e1, e2 with plain local names -/
theorem s_par {i j : Nat} {x y : Str} {px py pt : Pos} {kt k2 : Nat} {pt2 : Pos} (hN : X.N.Nodup) (h : EQ X a ρ G fun w G1 => EQ X b ρ G1 fun w' G2 => A.nx ((ρ.set i (some w)).set j (some w')) G2)
    (hw : swappedStores [.Tuple [.Name x px, .Name y py] kt pt] (.Tuple [a, b] k2 pt2) X.env = pure (some [x, y]) := by rfl) (hs1 : starEach [b] X.env = (false, eval b X.env) :: starEach [] X.env := by rfl) (hs2 : starEach [a, b] X.env = (false, eval a X.env) :: starEach [b] X.env := by rfl) (hc : X.calm = true := by rfl) (hi : X.N[i]? = some x := by rfl) (hj : X.N[j]? = some y := by rfl) (hij : i ≠ j := by decide)
    (hx : X.env.scope.names.lookup x = some .local := by rfl) (hy : X.env.scope.names.lookup y = some .local := by rfl)
    (hs : swapsWithSole [.Tuple [.Name x px, .Name y py] kt pt] (.Tuple [a, b] k2 pt2) pos.line X.env = pure false := by rfl) : S1 X (.Assign [.Tuple [.Name x px, .Name y py] kt pt] (.Tuple [a, b] k2 pt2) pos) ρ G A :=
  S1.of (ps_par hc hN hi hj hij hx hy (pa_cons pe_E (pa_cons pe_E pa_nil hs1) hs2) hw hs) fun σ H rs rg => ⟨ρ, G, _, h, rs, rg, fun u H1 ⟨w, G1, k1, rx, rg1, q⟩ => ⟨ρ, G1, _, q, rs.mono k1, rg1, fun v H2 ⟨w', G2, k2, ry, rg2, q2⟩ =>
    ⟨u, v, rfl, _, G2, k1.trans k2, ((rs.mono (k1.trans k2)).set i (rx.mono k2)).set j ry, rg2, q2⟩⟩⟩
/-- name op= value, on whole numbers -/
theorem s_augI {x : Str} {i : Nat} {op : Operator} {f : Int → Int → Int} {z : Int} {pos' : Pos} (hN : X.N.Nodup) (ho : PIp X op (ipI f)) (hρ : ρ[i]? = some (some (.int z))) (h : EQ X e ρ G fun w G1 => onI w fun j => A.nx (ρ.set i (some (.int (f z j)))) G1)
    (hi : X.N[i]? = some x := by rfl) (hx : Loc X.env.scope x := by first | exact .inl rfl | exact .inr rfl)
    (hf : X.fn x = true ∨ X.env.scope.names.lookup x = some .local := by first | exact .inl rfl | exact .inr rfl) : S1 X (.AugAssign (.Name x pos') op e pos) ρ G A :=
  S1.of (ps_aug hN hi hx pe_E ho hf) fun σ H rs rg => by
    obtain ⟨v, h1, h2⟩ := rs.2 i _ hρ
    have e1 : v = .int z := h2
    subst e1
    refine ⟨_, h1, ρ, G, _, h, rs, rg, fun u H1 ⟨w, G1, k1, rx, rg1, q⟩ => ?_⟩
    cases w with
    | int j => exact ⟨z, j, rfl, rx, _, G1, k1, (rs.mono k1).set i (show RV H1 (.int (f z j)) (.int (f z j)) from rfl), rg1, q⟩
    | _ => exact q.elim
theorem s_addI {x : Str} {i : Nat} {z : Int} {pos' : Pos} (hN : X.N.Nodup) (hρ : ρ[i]? = some (some (.int z))) (h : EQ X e ρ G fun w G1 => onI w fun j => A.nx (ρ.set i (some (.int (z + j)))) G1)
    (hi : X.N[i]? = some x := by rfl) (hx : Loc X.env.scope x := by first | exact .inl rfl | exact .inr rfl)
    (hf : X.fn x = true ∨ X.env.scope.names.lookup x = some .local := by first | exact .inl rfl | exact .inr rfl) : S1 X (.AugAssign (.Name x pos') .Add e pos) ρ G A := s_augI hN ip_add hρ h hi hx hf
/-- while -/
theorem s_while {c : Expr} {body : List Stmt} (hp : PassesOwn (model X.prog X.w) X.A X.env X.xe) (P : AS → AH → Prop) (μ : AS → AH → Nat) (h0 : P ρ G)
    (h : ∀ ρ G, P ρ G → BQ X c ρ G fun d G1 => ifB d (SQ X body ρ G1 { A with nx := fun ρ' G' => P ρ' G' ∧ μ ρ' G' < μ ρ G, ct := fun ρ' G' => P ρ' G' ∧ μ ρ' G' < μ ρ G, bk := A.nx }) (A.nx ρ G1)) : S1 X (.While c body [] pos) ρ G A :=
  S1.of (ps_while hp pt_T pss_S) fun σ H rs rg => by
    refine ⟨fun m σ' H' => ∃ ρ' G', m = μ ρ' G' ∧ Keep H H' ∧ RS H' σ' ρ' ∧ RG (cc X) H' G' ∧ P ρ' G', ⟨_, ρ, G, rfl, Keep.refl, rs, rg, h0⟩, ?_⟩
    rintro m σ1 H1 ⟨ρ1, G1, rfl, k1, rs1, rg1, p1⟩
    refine ⟨ρ1, G1, _, h ρ1 G1 p1, rs1, rg1, fun d H2 ⟨G2, k2, rg2, q⟩ => ?_⟩
    cases d with
    | false => exact ⟨ρ1, G2, k1.trans k2, rs1.mono k2, rg2, q.h⟩
    | true =>
      refine ⟨fun σ' H' => ∃ ρ' G', (P ρ' G' ∧ μ ρ' G' < μ ρ1 G1) ∧ Keep H H' ∧ RS H' σ' ρ' ∧ RG (cc X) H' G', fun σ' H' ⟨ρ', G', ⟨p', l⟩, k, rs', rg'⟩ => ⟨_, l, ρ', G', rfl, k, rs', rg', p'⟩, ρ1, G2, _, q.h, rs1.mono k2, rg2, ?_⟩
      refine ⟨fun σ' H' ⟨ρ', G', k, rs', rg', q'⟩ => ⟨ρ', G', q', (k1.trans k2).trans k, rs', rg'⟩, fun _ _ z => z.pre (k1.trans k2), fun _ _ z => z.pre (k1.trans k2), fun σ' H' ⟨ρ', G', k, rs', rg', q'⟩ => ⟨ρ', G', q', (k1.trans k2).trans k, rs', rg'⟩⟩
end

/-! ### what is walked -/
/-- from H1 on, where ok stands, the iterator yields xs one by one -/
structure IterOk (c : Ct) (J : It) (H1 : Hp) (xs : List W) (ok : AH → Prop) : Prop where
  go : ∀ i H G, Keep H1 H → RG c H G → ok G → i < xs.length → J.go i H
  yld : ∀ i H G v H', Keep H1 H → RG c H G → ok G → i < xs.length → J.yld i H v H' → Keep H H' ∧ RG c H' G ∧ ∃ w, xs[i]? = some w ∧ RV H' w v
  stop : ∀ i H G, Keep H1 H → RG c H G → ok G → xs.length ≤ i → J.stop i H
abbrev IK := List W → (AH → Prop) → AH → Prop
def CI (c : Ct) (H : Hp) (R : IK) : It → Hp → Prop := fun J H' => ∃ xs ok G', Keep H H' ∧ RG c H' G' ∧ IterOk c J H' xs ok ∧ R xs ok G'
structure IQ (X : Cx) (tg iter : Expr) (ρ : AS) (G : AH) (R : IK) : Prop where
  run : ∀ (pins : List (Addr × Obj)) (s : Shared) (σ : St) (H : Hp), Inv X pins σ H s → RS H σ ρ → RG (cc X) H G →
    wpAny (model X.prog X.w) X.A (eval iter X.env) (fun v s1 => wpAny (model X.prog X.w) X.A (pyIter v) (PIE X pins σ tg (CI (cc X) H R)) X.xe s1) X.xe s
def tI (X : Cx) (tg iter : Expr) : TI := fun σ H R' => ∃ ρ G R, IQ X tg iter ρ G R ∧ RS H σ ρ ∧ RG (cc X) H G ∧ ∀ J H', CI (cc X) H R J H' → R' J H'
section
variable {X : Cx} {tg iter a b e : Expr} {pos : Pos} {ρ : AS} {G : AH} {R : IK} {A : AEnds}
theorem pi_I : PI X tg iter (tI X tg iter) := ⟨fun pins s σ H R' I ⟨ρ, G, R, h, rs, rg, k⟩ => thn (h.run pins s σ H I rs rg) fun v s1 q => thn q fun itv s2 ⟨it, fp, tn, J, H', e, I2, T, st, f, r⟩ => ⟨it, fp, tn, J, H', e, I2, T, st, f, k J H' r⟩⟩
theorem IQ.of {t : TI} (h : PI X tg iter t) (k : ∀ σ H, RS H σ ρ → RG (cc X) H G → t σ H (CI (cc X) H R)) : IQ X tg iter ρ G R := ⟨fun pins s σ H I rs rg => h.run pins s σ H _ I (k σ H rs rg)⟩
theorem s_for {body : List Stmt} (hp : PassesOwn (model X.prog X.w) X.A X.env X.xe) (hc : X.calm = true)
    (h : IQ X tg iter ρ G fun xs ok G1 => ∃ P : Nat → AS → AH → Prop, P 0 ρ G1 ∧ (∀ i ρ' G', i ≤ xs.length → P i ρ' G' → ok G') ∧
      (∀ i x ρ' G', xs[i]? = some x → P i ρ' G' → GQ X tg x ρ' G' fun ρ2 G2 => SQ X body ρ2 G2 { A with nx := P (i + 1), ct := P (i + 1), bk := A.nx }) ∧ ∀ ρ' G', P xs.length ρ' G' → A.nx ρ' G')
    (hs : ∀ x, foldedSetIterable iter X.env x = pure x := by intro _; rfl) : S1 X (.For tg iter body [] pos) ρ G A :=
  S1.of (ps_for hp hc pi_I pg_G pss_S hs) fun σ H rs rg => by
    refine ⟨ρ, G, _, h, rs, rg, ?_⟩
    rintro J H1 ⟨xs, ok, G1, k1, rg1, io, P, p0, pok, turn, fin⟩
    refine ⟨fun i m σ' H' => ∃ ρ' G', m = xs.length - i ∧ i ≤ xs.length ∧ Keep H1 H' ∧ RS H' σ' ρ' ∧ RG (cc X) H' G' ∧ P i ρ' G', ⟨_, ρ, G1, rfl, Nat.zero_le _, Keep.refl, rs.mono k1, rg1, p0⟩, ?_⟩
    rintro i m σ2 H2 ⟨ρ2, G2, rfl, hi, k2, rs2, rg2, p2⟩
    by_cases hlt : i < xs.length
    · refine .inr ⟨io.go i H2 G2 k2 rg2 (pok i ρ2 G2 hi p2) hlt, fun σ' H' => ∃ ρ' G', Keep H1 H' ∧ RS H' σ' ρ' ∧ RG (cc X) H' G' ∧ P (i + 1) ρ' G', fun σ' H' ⟨ρ', G', k, rs', rg', p'⟩ => ⟨xs.length - (i + 1), by omega, ρ', G', rfl, hlt, k, rs', rg', p'⟩, fun x H' y => ?_⟩
      obtain ⟨k3, rg3, w, hw, rw'⟩ := io.yld i H2 G2 x H' k2 rg2 (pok i ρ2 G2 hi p2) hlt y
      refine ⟨w, ρ2, G2, _, turn i w ρ2 G2 hw p2, rs2.mono k3, rg3, rw', ?_⟩
      rintro σ4 H4 ⟨ρ4, G4, k4, rs4, rg4, q4⟩
      have kk : Keep H1 H4 := (k2.trans k3).trans k4
      refine ⟨ρ4, G4, _, q4, rs4, rg4, ?_⟩
      exact ⟨fun σ' H' ⟨ρ', G', k, rs', rg', q'⟩ => ⟨ρ', G', kk.trans k, rs', rg', q'⟩, fun _ _ z => z.pre (k1.trans kk), fun _ _ z => z.pre (k1.trans kk), fun σ' H' ⟨ρ', G', k, rs', rg', q'⟩ => ⟨ρ', G', kk.trans k, rs', rg', q'⟩⟩
    · have e : i = xs.length := by omega
      subst e
      exact .inl ⟨io.stop _ H2 G2 k2 rg2 (pok _ ρ2 G2 hi p2) (Nat.le_refl _), ρ2, G2, k1.trans k2, rs2, rg2, fin ρ2 G2 p2⟩

/-! ### lists, tuples, ranges walked -/
theorem i_list (h : EQ X iter ρ G fun w G1 => ∃ xs, LsA G1 w xs ∧ R xs (fun G => LsA G w xs) G1) : IQ X tg iter ρ G R :=
  IQ.of (pi_list pe_E) fun σ H rs rg => ⟨ρ, G, _, h, rs, rg, fun u H1 ⟨w, G1, k1, rx, rg1, xs, ha, q⟩ => by
    obtain ⟨a, vs, e, hs, r⟩ := ha.sq rg1 rx
    subst e
    refine ⟨a, rfl, ⟨vs, hs⟩, xs, _, G1, k1, rg1, ⟨fun i H2 G2 k2 rg2 o2 hi => ?_, fun i H2 G2 v H3 k2 rg2 o2 hi y => ?_, fun i H2 G2 k2 rg2 o2 hi => ?_⟩, q⟩
    · obtain ⟨a2, vs2, e2, hv2, r2⟩ := LsA.sq rg2 o2 (rx.mono k2)
      cases e2
      obtain ⟨v, h1, _⟩ := r2.get (show xs[i]? = some xs[i] by simp [hi])
      exact ⟨vs2, v, hv2, h1⟩
    · obtain ⟨e, y⟩ := y
      subst e
      obtain ⟨a2, vs2, e2, hv2, r2⟩ := LsA.sq rg2 o2 (rx.mono k2)
      cases e2
      exact ⟨Keep.refl, rg2, r2.back (y vs2 hv2)⟩
    · obtain ⟨a2, vs2, e2, hv2, r2⟩ := LsA.sq rg2 o2 (rx.mono k2)
      cases e2
      exact ⟨vs2, hv2, by rw [← r2.length]; exact hi⟩⟩
theorem i_tup (h : EQ X iter ρ G fun w G1 => onT w fun xs => R xs (fun _ => True) G1) : IQ X tg iter ρ G R :=
  IQ.of (pi_tup pe_E) fun σ H rs rg => ⟨ρ, G, _, h, rs, rg, fun u H1 ⟨w, G1, k1, rx, rg1, q⟩ => by
    cases w with
    | tup xs =>
      obtain ⟨a, vs, e1, hv, r⟩ := rx
      subst e1
      refine ⟨a, rfl, ⟨vs, SqT.of hv⟩, xs, _, G1, k1, rg1, ⟨fun i H2 G2 k2 rg2 o2 hi => ?_, fun i H2 G2 v H3 k2 rg2 o2 hi y => ?_, fun i H2 G2 k2 rg2 o2 hi => ?_⟩, q⟩
      · obtain ⟨v, h1, _⟩ := r.get (show xs[i]? = some xs[i] by simp [hi])
        exact ⟨vs, v, SqT.of (k2.t _ _ hv), h1⟩
      · obtain ⟨e, y⟩ := y
        subst e
        obtain ⟨w, h1, h2⟩ := r.back (y vs (SqT.of (k2.t _ _ hv)))
        exact ⟨Keep.refl, rg2, w, h1, h2.mono k2⟩
      · exact ⟨vs, SqT.of (k2.t _ _ hv), by rw [← r.length]; exact hi⟩
    | _ => exact q.elim⟩
/-- lo, lo + c, .. (n of them) -/
def rngW (lo c : Int) (n : Nat) : List W := (List.range n).map fun i => W.int (lo + (i : Nat) * c)
theorem rngW_length (lo c : Int) (n : Nat) : (rngW lo c n).length = n := by simp [rngW]
theorem rngW_get {lo c : Int} {n i : Nat} (h : i < n) : (rngW lo c n)[i]? = some (.int (lo + (i : Nat) * c)) := by simp [rngW, h]
theorem rng_item {lo c : Int} {n m : Nat} {x : W} (h : (rngW lo c n)[m]? = some x) : m < n ∧ x = .int (lo + (m : Nat) * c) := by
  have l := (List.getElem?_eq_some_iff.mp h).1
  rw [rngW_length] at l
  rw [rngW_get l] at h
  exact ⟨l, (Option.some.inj h).symm⟩
theorem rng0_item {n m : Nat} {x : W} (h : (rngW 0 1 n)[m]? = some x) : m < n ∧ x = .int (m : Nat) := by
  obtain ⟨h1, h2⟩ := rng_item h
  refine ⟨h1, ?_⟩
  rw [h2]
  congr 1
  omega
theorem io_rng {c : Ct} {H1 : Hp} {lo : Int} {n : Nat} : IterOk c (Itr lo n) H1 (rngW lo 1 n) (fun _ => True) :=
  ⟨fun i H G _ _ _ hi => by rw [rngW_length] at hi; exact hi, fun i H G v H' _ rg _ hi y => by
    obtain ⟨e, y⟩ := y
    subst e y
    rw [rngW_length] at hi
    exact ⟨Keep.refl, rg, _, rngW_get hi, by show V.int (lo + i) = V.int (lo + (i : Nat) * 1); rw [Int.mul_one]⟩, fun i H G _ _ _ hi => by rw [rngW_length] at hi; exact hi⟩
theorem io_rngC {c : Ct} {H1 : Hp} {lo d : Int} {n : Nat} : IterOk c (Itc lo d n) H1 (rngW lo d n) (fun _ => True) :=
  ⟨fun i H G _ _ _ hi => by rw [rngW_length] at hi; exact hi, fun i H G v H' _ rg _ hi y => by
    obtain ⟨e, y⟩ := y
    subst e y
    rw [rngW_length] at hi
    exact ⟨Keep.refl, rg, _, rngW_get hi, rfl⟩, fun i H G _ _ _ hi => by rw [rngW_length] at hi; exact hi⟩
theorem i_range1 {p : Pos} (hg : Gl X "range") (hm : X.mg "range" = none) (h : EQ X a ρ G fun w G1 => onI w fun j => -(2 ^ 62) ≤ j ∧ j < 2 ^ 62 ∧ R (rngW 0 1 j.toNat) (fun _ => True) G1) (hs : starEach [a] X.env = (false, eval a X.env) :: starEach [] X.env := by rfl) :
    IQ X tg (.Call (.Name "range" p) [a] [] pos) ρ G R :=
  IQ.of (pi_range1 hg hm (pa_cons pe_E pa_nil hs) (by rw [hs]; rfl)) fun σ H rs rg => ⟨ρ, G, _, h, rs, rg, fun u H1 ⟨w, G1, k1, rx, rg1, q⟩ => by
    cases w with
    | int j =>
      have e1 : u = .int j := rx
      subst e1
      exact ⟨j, rfl, q.1, q.2.1, _, _, G1, k1, rg1, io_rng, q.2.2⟩
    | _ => exact q.elim⟩
theorem i_range2 {p : Pos} (hg : Gl X "range") (hm : X.mg "range" = none) (h : EQ X a ρ G fun w G1 => EQ X b ρ G1 fun w' G2 => onI w fun i => onI w' fun j => (-(2 ^ 62) ≤ i ∧ i < 2 ^ 62 ∧ -(2 ^ 62) ≤ j ∧ j < 2 ^ 62) ∧ R (rngW i 1 (j - i).toNat) (fun _ => True) G2)
    (hs : starEach [b] X.env = (false, eval b X.env) :: starEach [] X.env := by rfl) (hs2 : starEach [a, b] X.env = (false, eval a X.env) :: starEach [b] X.env := by rfl) :
    IQ X tg (.Call (.Name "range" p) [a, b] [] pos) ρ G R :=
  IQ.of (pi_range2 hg hm (pa_cons pe_E (pa_cons pe_E pa_nil hs) hs2) (by rw [hs2, hs]; rfl) (by rw [hs]; rfl)) fun σ H rs rg => ⟨ρ, G, _, h, rs, rg, fun u H1 ⟨w, G1, k1, rx, rg1, q⟩ => ⟨ρ, G1, _, q, rs.mono k1, rg1, fun u2 H2 ⟨w2, G2, k2, ry, rg2, q⟩ => by
    cases w with
    | int i =>
      cases w2 with
      | int j =>
        have e1 : u = .int i := rx
        subst e1
        have e2 : u2 = .int j := ry
        subst e2
        exact ⟨i, j, rfl, q.1, _, _, G2, k1.trans k2, rg2, io_rng, q.2⟩
      | _ => exact q.elim
    | _ => exact q.elim⟩⟩
theorem i_range3 {c : Expr} {p : Pos} (hg : Gl X "range") (hm : X.mg "range" = none) (h : EQ X a ρ G fun w G1 => EQ X b ρ G1 fun w' G2 => EQ X c ρ G2 fun w3 G3 => onI w fun i => onI w' fun j => onI w3 fun d => ∃ n, RgC i j d n ∧ R (rngW i d n) (fun _ => True) G3)
    (hs : starEach [c] X.env = (false, eval c X.env) :: starEach [] X.env := by rfl) (hs2 : starEach [b, c] X.env = (false, eval b X.env) :: starEach [c] X.env := by rfl) (hs3 : starEach [a, b, c] X.env = (false, eval a X.env) :: starEach [b, c] X.env := by rfl) :
    IQ X tg (.Call (.Name "range" p) [a, b, c] [] pos) ρ G R :=
  IQ.of (pi_range3 hg hm (pa_cons pe_E (pa_cons pe_E (pa_cons pe_E pa_nil hs) hs2) hs3) hs3 (by rw [hs2, hs]; rfl)) fun σ H rs rg => ⟨ρ, G, _, h, rs, rg, fun u H1 ⟨w, G1, k1, rx, rg1, q⟩ => ⟨ρ, G1, _, q, rs.mono k1, rg1, fun u2 H2 ⟨w2, G2, k2, ry, rg2, q⟩ =>
   ⟨ρ, G2, _, q, rs.mono (k1.trans k2), rg2, fun u3 H3 ⟨w3, G3, k3, rz, rg3, q⟩ => by
    cases w with
    | int i =>
      cases w2 with
      | int j =>
        cases w3 with
        | int d =>
          have e1 : u = .int i := rx
          subst e1
          have e2 : u2 = .int j := ry
          subst e2
          have e3 : u3 = .int d := rz
          subst e3
          obtain ⟨n, q1, q2⟩ := q
          exact ⟨i, j, d, n, rfl, q1, _, _, G3, (k1.trans k2).trans k3, rg3, io_rngC, q2⟩
        | _ => exact q.elim
      | _ => exact q.elim
    | _ => exact q.elim⟩⟩⟩
/-- enumerate of a list -/
def enW (xs : List W) : List W := xs.zipIdx.map fun p => .tup [.int (p.2 : Nat), p.1]
theorem enW_length (xs : List W) : (enW xs).length = xs.length := by simp [enW]
theorem enW_get {xs : List W} {i : Nat} {w : W} (h : xs[i]? = some w) : (enW xs)[i]? = some (.tup [.int (i : Nat), w]) := by simp [enW, h]
theorem i_enum {elts : List Expr} {kk : Nat} {p tpos : Pos} (hg : Gl X "enumerate") (hm : X.mg "enumerate" = none) (h : EQ X a ρ G fun w G1 => ∃ xs, LsA G1 w xs ∧ R (enW xs) (fun G => LsA G w xs) G1) (hs : starEach [a] X.env = (false, eval a X.env) :: starEach [] X.env := by rfl) :
    IQ X (.Tuple elts kk tpos) (.Call (.Name "enumerate" p) [a] [] pos) ρ G R :=
  IQ.of (pi_enum hg hm (pa_cons pe_E pa_nil hs) (by rw [hs]; rfl)) fun σ H rs rg => ⟨ρ, G, _, h, rs, rg, fun u H1 ⟨w, G1, k1, rx, rg1, xs, ha, q⟩ => by
    obtain ⟨a, vs, e, hsq, r⟩ := ha.sq rg1 rx
    subst e
    refine ⟨a, vs, rfl, hsq, enW xs, _, G1, k1, rg1, ⟨fun i H2 G2 k2 rg2 o2 hi => ?_, fun i H2 G2 v H3 k2 rg2 o2 hi y => ?_, fun i H2 G2 k2 rg2 o2 hi => ?_⟩, q⟩
    · rw [enW_length] at hi
      obtain ⟨a2, vs2, e2, hv2, r2⟩ := LsA.sq rg2 o2 (rx.mono k2)
      cases e2
      obtain ⟨v, h1, _⟩ := r2.get (show xs[i]? = some xs[i] by simp [hi])
      exact ⟨vs2, v, hv2, h1⟩
    · obtain ⟨T, x, e1, hT, e2, y⟩ := y
      subst e1 e2
      obtain ⟨a2, vs2, e2, hv2, r2⟩ := LsA.sq rg2 o2 (rx.mono k2)
      cases e2
      obtain ⟨w, h1, h2⟩ := r2.back (y vs2 hv2)
      exact ⟨Keep.new hT, rg2.tup hT, _, enW_get h1, T, _, rfl, upd_same, .cons (show RV _ (.int _) _ from rfl) (.cons (h2.mono (Keep.new hT)) RVs.nil)⟩
    · rw [enW_length] at hi
      obtain ⟨a2, vs2, e2, hv2, r2⟩ := LsA.sq rg2 o2 (rx.mono k2)
      cases e2
      exact ⟨vs2, hv2, by rw [← r2.length]; exact hi⟩⟩
/-- zip of two lists, of two tuples -/
def ziW (xs ys : List W) : List W := (xs.zip ys).map fun p => .tup [p.1, p.2]
theorem ziW_length (xs ys : List W) : (ziW xs ys).length = min xs.length ys.length := by simp [ziW]
theorem ziW_get {xs ys : List W} {i : Nat} {w v : W} (h : xs[i]? = some w) (h2 : ys[i]? = some v) : (ziW xs ys)[i]? = some (.tup [w, v]) := by
  have e : (xs.zip ys)[i]? = some (w, v) := by rw [List.getElem?_zip_eq_some]; exact ⟨h, h2⟩
  simp only [ziW, List.getElem?_map, e]
  rfl
theorem i_zip {elts : List Expr} {kk : Nat} {p tpos : Pos} (hg : Gl X "zip") (hm : X.mg "zip" = none) (h : EQ X a ρ G fun w G1 => EQ X b ρ G1 fun w' G2 => ∃ xs ys, LsA G2 w xs ∧ LsA G2 w' ys ∧ R (ziW xs ys) (fun G => LsA G w xs ∧ LsA G w' ys) G2)
    (hs : starEach [b] X.env = (false, eval b X.env) :: starEach [] X.env := by rfl) (hs2 : starEach [a, b] X.env = (false, eval a X.env) :: starEach [b] X.env := by rfl) :
    IQ X (.Tuple elts kk tpos) (.Call (.Name "zip" p) [a, b] [] pos) ρ G R :=
  IQ.of (pi_zip hg hm (pa_cons pe_E (pa_cons pe_E pa_nil hs) hs2) hs2 (by rw [hs]; rfl)) fun σ H rs rg => ⟨ρ, G, _, h, rs, rg, fun u H1 ⟨w, G1, k1, rx, rg1, q⟩ => ⟨ρ, G1, _, q, rs.mono k1, rg1, fun u2 H2 ⟨w2, G2, k2, ry, rg2, xs, ys, hl, hm', q2⟩ => by
    have rx := rx.mono k2
    obtain ⟨l, vs, e1, hv, _⟩ := hl.sq rg2 rx
    obtain ⟨m, us, e2, hu, _⟩ := hm'.sq rg2 ry
    subst e1 e2
    refine ⟨l, m, vs, us, rfl, hv, hu, ziW xs ys, _, G2, k1.trans k2, rg2, ⟨fun i H3 G3 k3 rg3 o3 hi => ?_, fun i H3 G3 v H4 k3 rg3 o3 hi y => ?_, fun i H3 G3 k3 rg3 o3 hi => ?_⟩, q2⟩
    · rw [ziW_length] at hi
      obtain ⟨a2, vs2, e2, hv2, r2⟩ := LsA.sq rg3 o3.1 (rx.mono k3)
      cases e2
      obtain ⟨a3, us2, e3, hu2, s2⟩ := LsA.sq rg3 o3.2 (ry.mono k3)
      cases e3
      obtain ⟨v, h1, _⟩ := r2.get (show xs[i]? = some (xs[i]'(by omega)) by simp [show i < xs.length by omega])
      obtain ⟨v', h2, _⟩ := s2.get (show ys[i]? = some (ys[i]'(by omega)) by simp [show i < ys.length by omega])
      exact ⟨vs2, us2, v, v', hv2, hu2, h1, h2⟩
    · obtain ⟨T, x, x', e1, hT, e2, y, y'⟩ := y
      subst e1 e2
      obtain ⟨a2, vs2, e2, hv2, r2⟩ := LsA.sq rg3 o3.1 (rx.mono k3)
      cases e2
      obtain ⟨a3, us2, e3, hu2, s2⟩ := LsA.sq rg3 o3.2 (ry.mono k3)
      cases e3
      obtain ⟨w, h1, h2⟩ := r2.back (y vs2 hv2)
      obtain ⟨w', h1', h2'⟩ := s2.back (y' us2 hu2)
      exact ⟨Keep.new hT, rg3.tup hT, _, ziW_get h1 h1', T, _, rfl, upd_same, .cons (h2.mono (Keep.new hT)) (.cons (h2'.mono (Keep.new hT)) RVs.nil)⟩
    · rw [ziW_length] at hi
      obtain ⟨a2, vs2, e2, hv2, r2⟩ := LsA.sq rg3 o3.1 (rx.mono k3)
      cases e2
      obtain ⟨a3, us2, e3, hu2, s2⟩ := LsA.sq rg3 o3.2 (ry.mono k3)
      cases e3
      exact ⟨vs2, us2, hv2, hu2, by rw [← r2.length, ← s2.length]; omega⟩⟩⟩
theorem i_zipT {elts : List Expr} {kk : Nat} {p tpos : Pos} (hg : Gl X "zip") (hm : X.mg "zip" = none) (h : EQ X a ρ G fun w G1 => EQ X b ρ G1 fun w' G2 => onT w fun xs => onT w' fun ys => R (ziW xs ys) (fun _ => True) G2)
    (hs : starEach [b] X.env = (false, eval b X.env) :: starEach [] X.env := by rfl) (hs2 : starEach [a, b] X.env = (false, eval a X.env) :: starEach [b] X.env := by rfl) :
    IQ X (.Tuple elts kk tpos) (.Call (.Name "zip" p) [a, b] [] pos) ρ G R :=
  IQ.of (RZ.pi_zipA hg hm (pa_cons pe_E (pa_cons pe_E pa_nil hs) hs2) hs2 (by rw [hs]; rfl)) fun σ H rs rg => ⟨ρ, G, _, h, rs, rg, fun u H1 ⟨w, G1, k1, rx, rg1, q⟩ => ⟨ρ, G1, _, q, rs.mono k1, rg1, fun u2 H2 ⟨w2, G2, k2, ry, rg2, q⟩ => by
    cases w with
    | tup xs =>
      cases w2 with
      | tup ys =>
        obtain ⟨l, vs, e1, hv, r⟩ := rx
        obtain ⟨m, us, e2, hu, r'⟩ := ry
        subst e1 e2
        have hv := k2.t _ _ hv
        have r := r.mono k2
        refine ⟨l, m, vs, us, rfl, .inr ⟨SqT.of hv, SqT.of hu, ziW xs ys, _, G2, k1.trans k2, rg2, ⟨fun i H3 G3 k3 rg3 o3 hi => ?_, fun i H3 G3 v H4 k3 rg3 o3 hi y => ?_, fun i H3 G3 k3 rg3 o3 hi => ?_⟩, q⟩⟩
        · rw [ziW_length] at hi
          obtain ⟨v, h1, _⟩ := r.get (show xs[i]? = some (xs[i]'(by omega)) by simp [show i < xs.length by omega])
          obtain ⟨v', h2, _⟩ := r'.get (show ys[i]? = some (ys[i]'(by omega)) by simp [show i < ys.length by omega])
          exact ⟨vs, us, v, v', SqT.of (k3.t _ _ hv), SqT.of (k3.t _ _ hu), h1, h2⟩
        · obtain ⟨T, x, x', e1, hT, e2, y, y'⟩ := y
          subst e1 e2
          obtain ⟨w, h1, h2⟩ := r.back (y vs (SqT.of (k3.t _ _ hv)))
          obtain ⟨w', h1', h2'⟩ := r'.back (y' us (SqT.of (k3.t _ _ hu)))
          exact ⟨Keep.new hT, rg3.tup hT, _, ziW_get h1 h1', T, _, rfl, upd_same, .cons (h2.mono (k3.trans (Keep.new hT))) (.cons (h2'.mono (k3.trans (Keep.new hT))) RVs.nil)⟩
        · rw [ziW_length] at hi
          exact ⟨vs, us, SqT.of (k3.t _ _ hv), SqT.of (k3.t _ _ hu), by rw [← r.length, ← r'.length]; omega⟩
      | _ => exact q.elim
    | _ => exact q.elim⟩⟩
end
end AL
namespace AL
open PySem PySem.Spec L2
open PyProof.Rows hiding St

/-! ### data -/
mutual
/-- None, whole numbers, texts, tuples of these -/
def okW : W → Bool
  | .non => true
  | .bl _ => false
  | .int _ => true
  | .str x => PyData.strOk x
  | .ref _ => false
  | .ty _ => false
  | .tup ws => okWs ws
  | .lst ws => okWs ws
def okWs : List W → Bool
  | [] => true
  | w :: ws => okW w && okWs ws
end
mutual
def dpW : W → Nat
  | .non => 0
  | .bl _ => 0
  | .int _ => 0
  | .str _ => 0
  | .ref _ => 0
  | .ty _ => 0
  | .tup ws => dpWs ws + 1
  | .lst ws => dpWs ws + 1
def dpWs : List W → Nat
  | [] => 0
  | w :: ws => max (dpW w) (dpWs ws)
end
mutual
def pdW : W → PyData
  | .non => .none
  | .bl b => .bool b
  | .int i => .int i
  | .str x => .str x
  | .ref _ => .none
  | .ty _ => .none
  | .tup ws => .tuple (pdWs ws)
  | .lst ws => .list (pdWs ws)
def pdWs : List W → List PyData
  | [] => []
  | w :: ws => pdW w :: pdWs ws
end
mutual
theorem pd_lay : ∀ w : W, okW w = true → (pdW w).canLay0 = true
  | .non, _ => rfl
  | .bl _, h => by simp [okW] at h
  | .int _, _ => rfl
  | .str x, h => by simpa [okW, pdW, PyData.canLay0] using h
  | .ref _, h => by simp [okW] at h
  | .ty _, h => by simp [okW] at h
  | .tup ws, h => by
    rw [pdW, PyData.canLay0]
    exact pds_lay ws (by simpa [okW] using h)
  | .lst ws, h => by
    rw [pdW, PyData.canLay0]
    exact pds_lay ws (by simpa [okW] using h)
theorem pds_lay : ∀ ws : List W, okWs ws = true → PyData.canLayAll0 (pdWs ws) = true
  | [], _ => rfl
  | w :: ws, h => by
    simp only [okWs, Bool.and_eq_true] at h
    rw [pdWs, PyData.canLayAll0, pd_lay w h.1, pds_lay ws h.2]; rfl
end
mutual
theorem pd_depth : ∀ w : W, (pdW w).depth = dpW w
  | .non => rfl
  | .bl _ => rfl
  | .int _ => rfl
  | .str _ => rfl
  | .ref _ => rfl
  | .ty _ => rfl
  | .tup ws => by rw [pdW, PyData.depth, dpW, pds_depth ws]
  | .lst ws => by rw [pdW, PyData.depth, dpW, pds_depth ws]
theorem pds_depth : ∀ ws : List W, PyData.depthAll (pdWs ws) = dpWs ws
  | [] => rfl
  | w :: ws => by rw [pdWs, PyData.depthAll, dpWs, pd_depth w, pds_depth ws]
end
mutual
theorem pd_eqv : ∀ a b : W, okW a = true → okW b = true → PyData.eqv (pdW a) (pdW b) = eqW a b
  | .non, b, _, h => by cases b <;> first | rfl | (simp [okW] at h; done) | simp [pdW, PyData.eqv, eqW]
  | .int a, b, _, h => by cases b <;> first | (simp [okW] at h; done) | simp [pdW, PyData.eqv, eqW, Bool.beq_eq_decide_eq]
  | .str a, b, _, h => by cases b <;> first | (simp [pdW, PyData.eqv, eqW, Bool.beq_eq_decide_eq]; done) | (simp [okW] at h; done)
  | .tup a, b, ha, hb => by cases b <;> first | (rw [pdW, pdW, PyData.eqv, eqW]; exact pds_eqv a _ (by simpa [okW] using ha) (by simpa [okW] using hb)) | (simp [okW] at hb; done) | simp [pdW, PyData.eqv, eqW]
  | .lst a, b, ha, hb => by cases b <;> first | (rw [pdW, pdW, PyData.eqv, eqW]; exact pds_eqv a _ (by simpa [okW] using ha) (by simpa [okW] using hb)) | (simp [okW] at hb; done) | simp [pdW, PyData.eqv, eqW]
  | .bl _, _, h, _ => by simp [okW] at h
  | .ref _, _, h, _ => by simp [okW] at h
  | .ty _, _, h, _ => by simp [okW] at h
theorem pds_eqv : ∀ a b : List W, okWs a = true → okWs b = true → PyData.eqvAll (pdWs a) (pdWs b) = eqWs a b
  | [], [], _, _ => rfl
  | a :: as, b :: bs, ha, hb => by
    simp only [okWs, Bool.and_eq_true] at ha hb
    show _ = (eqW a b && eqWs as bs)
    rw [pdWs, pdWs, PyData.eqvAll, pd_eqv a b ha.1 hb.1, pds_eqv as bs ha.2 hb.2]
  | [], _ :: _, _, _ => by simp [pdWs, PyData.eqvAll, eqWs]
  | _ :: _, [], _, _ => by simp [pdWs, PyData.eqvAll, eqWs]
end
mutual
/-- data with lists in it, as the heap has them -/
inductive DW (G : AH) : W → PyData → Prop
  | non : DW G .non .none
  | bl (b : Bool) : DW G (.bl b) (.bool b)
  | int (i : Int) : DW G (.int i) (.int i)
  | str (x : Str) : DW G (.str x) (.str x)
  | lst {a : Addr} {xs : List W} {ds : List PyData} : G a = some (.lst xs) → DWs G xs ds → DW G (.ref a) (.list ds)
  | tup {xs : List W} {ds : List PyData} : DWs G xs ds → DW G (.tup xs) (.tuple ds)
  | lsv {xs : List W} {ds : List PyData} : DWs G xs ds → DW G (.lst xs) (.list ds)
inductive DWs (G : AH) : List W → List PyData → Prop
  | nil : DWs G [] []
  | cons {v : W} {vs : List W} {d : PyData} {ds : List PyData} : DW G v d → DWs G vs ds → DWs G (v :: vs) (d :: ds)
end
mutual
theorem DW.low {c : Ct} {H : Hp} {G : AH} (g : RG c H G) : ∀ (d : PyData) (w : W) (v : V), DW G w d → RV H w v → Dp c.K H v d
  | .none, _, _, h, r => by cases h; cases (show _ = V.non from r); exact .non
  | .bool b, _, _, h, r => by cases h; cases (show _ = V.bl b from r); exact .bl b
  | .int i, _, _, h, r => by cases h; cases (show _ = V.int i from r); exact .int i
  | .str x, _, _, h, r => by cases h; cases (show _ = V.str x from r); exact .str x
  | .list ds, _, _, h, r => by
    cases h with
    | @lst a xs _ ha hs =>
      cases (show _ = V.ref a from r)
      obtain ⟨vs, hv, rr⟩ := g.lst ha
      exact .lst (SqL.of hv) (DWs.low g ds xs vs hs rr)
    | lsv hs =>
      obtain ⟨a, vs, e, ⟨o, ho⟩, rr⟩ := r
      subst e
      exact .lst (.inl (.inr ⟨o, ho⟩)) (DWs.low g ds _ vs hs rr)
  | .tuple ds, _, _, h, r => by
    cases h with
    | tup hs =>
      obtain ⟨a, vs, e, hv, rr⟩ := r
      subst e
      exact .tup (SqT.of hv) (DWs.low g ds _ vs hs rr)
  | .dict _, _, _, h, _ => by cases h
theorem DWs.low {c : Ct} {H : Hp} {G : AH} (g : RG c H G) : ∀ (ds : List PyData) (ws : List W) (vs : List V), DWs G ws ds → RVs H ws vs → DpAll c.K H vs ds
  | [], _, _, h, r => by cases h; cases (show _ = ([] : List V) from r); exact .nil
  | d :: ds, _, _, h, r => by
    cases h with
    | cons h1 h2 =>
      obtain ⟨v, vs, e, r1, r2⟩ := r
      subst e
      exact .cons (DW.low g d _ v h1 r1) (DWs.low g ds _ vs h2 r2)
end
mutual
theorem DW.of {G : AH} : ∀ w : W, okW w = true → DW G w (pdW w)
  | .non, _ => .non
  | .bl _, h => by simp [okW] at h
  | .int i, _ => .int i
  | .str x, _ => .str x
  | .ref _, h => by simp [okW] at h
  | .ty _, h => by simp [okW] at h
  | .tup ws, h => .tup (DWs.of ws (by simpa [okW] using h))
  | .lst ws, h => .lsv (DWs.of ws (by simpa [okW] using h))
theorem DWs.of {G : AH} : ∀ ws : List W, okWs ws = true → DWs G ws (pdWs ws)
  | [], _ => .nil
  | w :: ws, h => by
    simp only [okWs, Bool.and_eq_true] at h
    exact .cons (DW.of w h.1) (DWs.of ws h.2)
end
/-- == : scalars, tuples of data, else as data -/
def fEqB (neg : Bool) : WR := fun x y G K => match x, y with
  | .int i, .int j => K (.bl (if neg then !decide (i = j) else decide (i = j))) G
  | .str i, .str j => K (.bl (if neg then !decide (i = j) else decide (i = j))) G
  | .bl i, .bl j => K (.bl (if neg then !decide (i = j) else decide (i = j))) G
  | .tup i, .tup j => (okWs i && Nat.ble (dpWs i) 60 && (okWs j && Nat.ble (dpWs j) 60)) = true ∧ K (.bl (if neg then !eqWs i j else eqWs i j)) G
  | .lst i, .lst j => (okWs i && Nat.ble (dpWs i) 60 && (okWs j && Nat.ble (dpWs j) 60)) = true ∧ K (.bl (if neg then !eqWs i j else eqWs i j)) G
  | .non, .int _ | .int _, .non | .non, .str _ | .str _, .non | .int _, .str _ | .str _, .int _ => K (.bl (if neg then true else false)) G
  | x, y => ∃ d e, DW G x d ∧ DW G y e ∧ SeqAt.shaped d = true ∧ SeqAt.shaped e = true ∧ K (.bl (if neg then !PyData.eqv d e else PyData.eqv d e)) G
def fEq : WR := fEqB false
def fNe : WR := fEqB true
theorem shaped_tup {xs : List W} (h : (okWs xs && Nat.ble (dpWs xs) 60) = true) : SeqAt.shaped (pdW (.tup xs)) = true := by
  rw [Bool.and_eq_true] at h
  unfold SeqAt.shaped
  rw [pd_lay (.tup xs) (by simpa [okW] using h.1), Bool.true_and]
  refine decide_eq_true ?_
  rw [pd_depth, dpW]
  have := Nat.le_of_ble_eq_true h.2
  omega
theorem shaped_lst {xs : List W} (h : (okWs xs && Nat.ble (dpWs xs) 60) = true) : SeqAt.shaped (pdW (.lst xs)) = true := by
  rw [Bool.and_eq_true] at h
  unfold SeqAt.shaped
  rw [pd_lay (.lst xs) (by simpa [okW] using h.1), Bool.true_and]
  refine decide_eq_true ?_
  rw [pd_depth, dpW]
  have := Nat.le_of_ble_eq_true h.2
  omega
theorem shaped_ok {x : W} (h : (okW x && Nat.ble (dpW x) 60) = true) : SeqAt.shaped (pdW x) = true := by
  rw [Bool.and_eq_true] at h
  unfold SeqAt.shaped
  rw [pd_lay x h.1, Bool.true_and]
  refine decide_eq_true ?_
  rw [pd_depth]
  have := Nat.le_of_ble_eq_true h.2
  omega
def rEqU (K : PySem.W.Frag) : R2 := fun x y H Q => rEq x y H Q ∨ rEqD K x y H Q
def rNeU (K : PySem.W.Frag) : R2 := fun x y H Q => rNe x y H Q ∨ rNeD K x y H Q
theorem rr_eq {c : Ct} : RR c (rEqU c.K) fEq := by
  intro x y u v H G K Q rx ry g h q
  have deep : (∃ d e, DW G x d ∧ DW G y e ∧ SeqAt.shaped d = true ∧ SeqAt.shaped e = true ∧ K (.bl (PyData.eqv d e)) G) → rEqU c.K u v H Q := fun ⟨d, e, hd, he, sd, se, k⟩ =>
    .inr ⟨d, e, DW.low g d x u hd rx, DW.low g e y v he ry, sd, se, q _ _ (.stay (w := .bl _) rfl g k)⟩
  cases x with
  | int i => cases y with
    | int j => cases (show u = .int i from rx); cases (show v = .int j from ry); exact .inl ⟨rfl, q _ _ (.stay (w := .bl (decide (i = j))) (by show V.bl _ = V.bl _; simp) g h)⟩
    | non => cases (show u = .int i from rx); cases (show v = .non from ry); exact .inl ⟨rfl, q _ _ (.stay (w := .bl false) rfl g h)⟩
    | str j => cases (show u = .int i from rx); cases (show v = .str j from ry); exact .inl ⟨rfl, q _ _ (.stay (w := .bl false) rfl g h)⟩
    | _ => exact deep h
  | str i => cases y with
    | str j => cases (show u = .str i from rx); cases (show v = .str j from ry); exact .inl ⟨rfl, q _ _ (.stay (w := .bl (decide (i = j))) (by show V.bl _ = V.bl _; simp) g h)⟩
    | non => cases (show u = .str i from rx); cases (show v = .non from ry); exact .inl ⟨rfl, q _ _ (.stay (w := .bl false) rfl g h)⟩
    | int j => cases (show u = .str i from rx); cases (show v = .int j from ry); exact .inl ⟨rfl, q _ _ (.stay (w := .bl false) rfl g h)⟩
    | _ => exact deep h
  | bl i => cases y with
    | bl j => cases (show u = .bl i from rx); cases (show v = .bl j from ry); exact .inl ⟨rfl, q _ _ (.stay (w := .bl (decide (i = j))) (by show V.bl _ = V.bl _; simp) g h)⟩
    | _ => exact deep h
  | non => cases y with
    | int j => cases (show u = .non from rx); cases (show v = .int j from ry); exact .inl ⟨rfl, q _ _ (.stay (w := .bl false) rfl g h)⟩
    | str j => cases (show u = .non from rx); cases (show v = .str j from ry); exact .inl ⟨rfl, q _ _ (.stay (w := .bl false) rfl g h)⟩
    | _ => exact deep h
  | tup xs => cases y with
    | tup ys =>
      obtain ⟨hh, k⟩ := h
      rw [Bool.and_eq_true] at hh
      have o1 := (Bool.and_eq_true_iff.mp hh.1).1
      have o2 := (Bool.and_eq_true_iff.mp hh.2).1
      refine deep ⟨_, _, DW.of (.tup xs) (by simpa [okW] using o1), DW.of (.tup ys) (by simpa [okW] using o2), shaped_tup hh.1, shaped_tup hh.2, ?_⟩
      rw [pd_eqv (.tup xs) (.tup ys) (by simpa [okW] using o1) (by simpa [okW] using o2), eqW]
      exact k
    | _ => exact deep h
  | lst xs => cases y with
    | lst ys =>
      obtain ⟨hh, k⟩ := h
      rw [Bool.and_eq_true] at hh
      have o1 := (Bool.and_eq_true_iff.mp hh.1).1
      have o2 := (Bool.and_eq_true_iff.mp hh.2).1
      refine deep ⟨_, _, DW.of (.lst xs) (by simpa [okW] using o1), DW.of (.lst ys) (by simpa [okW] using o2), shaped_lst hh.1, shaped_lst hh.2, ?_⟩
      rw [pd_eqv (.lst xs) (.lst ys) (by simpa [okW] using o1) (by simpa [okW] using o2), eqW]
      exact k
    | _ => exact deep h
  | ref a => exact deep (by cases y <;> exact h)
  | ty a => exact deep (by cases y <;> exact h)
theorem rr_ne {c : Ct} : RR c (rNeU c.K) fNe := by
  intro x y u v H G K Q rx ry g h q
  have deep : (∃ d e, DW G x d ∧ DW G y e ∧ SeqAt.shaped d = true ∧ SeqAt.shaped e = true ∧ K (.bl (!PyData.eqv d e)) G) → rNeU c.K u v H Q := fun ⟨d, e, hd, he, sd, se, k⟩ =>
    .inr ⟨d, e, DW.low g d x u hd rx, DW.low g e y v he ry, sd, se, q _ _ (.stay (w := .bl _) rfl g k)⟩
  cases x with
  | int i => cases y with
    | int j => cases (show u = .int i from rx); cases (show v = .int j from ry); exact .inl ⟨rfl, q _ _ (.stay (w := .bl (!decide (i = j))) (by show V.bl _ = V.bl _; simp) g h)⟩
    | non => cases (show u = .int i from rx); cases (show v = .non from ry); exact .inl ⟨rfl, q _ _ (.stay (w := .bl true) rfl g h)⟩
    | str j => cases (show u = .int i from rx); cases (show v = .str j from ry); exact .inl ⟨rfl, q _ _ (.stay (w := .bl true) rfl g h)⟩
    | _ => exact deep h
  | str i => cases y with
    | str j => cases (show u = .str i from rx); cases (show v = .str j from ry); exact .inl ⟨rfl, q _ _ (.stay (w := .bl (!decide (i = j))) (by show V.bl _ = V.bl _; simp) g h)⟩
    | non => cases (show u = .str i from rx); cases (show v = .non from ry); exact .inl ⟨rfl, q _ _ (.stay (w := .bl true) rfl g h)⟩
    | int j => cases (show u = .str i from rx); cases (show v = .int j from ry); exact .inl ⟨rfl, q _ _ (.stay (w := .bl true) rfl g h)⟩
    | _ => exact deep h
  | bl i => cases y with
    | bl j => cases (show u = .bl i from rx); cases (show v = .bl j from ry); exact .inl ⟨rfl, q _ _ (.stay (w := .bl (!decide (i = j))) (by show V.bl _ = V.bl _; simp) g h)⟩
    | _ => exact deep h
  | non => cases y with
    | int j => cases (show u = .non from rx); cases (show v = .int j from ry); exact .inl ⟨rfl, q _ _ (.stay (w := .bl true) rfl g h)⟩
    | str j => cases (show u = .non from rx); cases (show v = .str j from ry); exact .inl ⟨rfl, q _ _ (.stay (w := .bl true) rfl g h)⟩
    | _ => exact deep h
  | tup xs => cases y with
    | tup ys =>
      obtain ⟨hh, k⟩ := h
      rw [Bool.and_eq_true] at hh
      have o1 := (Bool.and_eq_true_iff.mp hh.1).1
      have o2 := (Bool.and_eq_true_iff.mp hh.2).1
      refine deep ⟨_, _, DW.of (.tup xs) (by simpa [okW] using o1), DW.of (.tup ys) (by simpa [okW] using o2), shaped_tup hh.1, shaped_tup hh.2, ?_⟩
      rw [pd_eqv (.tup xs) (.tup ys) (by simpa [okW] using o1) (by simpa [okW] using o2), eqW]
      exact k
    | _ => exact deep h
  | lst xs => cases y with
    | lst ys =>
      obtain ⟨hh, k⟩ := h
      rw [Bool.and_eq_true] at hh
      have o1 := (Bool.and_eq_true_iff.mp hh.1).1
      have o2 := (Bool.and_eq_true_iff.mp hh.2).1
      refine deep ⟨_, _, DW.of (.lst xs) (by simpa [okW] using o1), DW.of (.lst ys) (by simpa [okW] using o2), shaped_lst hh.1, shaped_lst hh.2, ?_⟩
      rw [pd_eqv (.lst xs) (.lst ys) (by simpa [okW] using o1) (by simpa [okW] using o2), eqW]
      exact k
    | _ => exact deep h
  | ref a => exact deep (by cases y <;> exact h)
  | ty a => exact deep (by cases y <;> exact h)
/-- any data compared -/
theorem fEq_ok {x y : W} {G : AH} {K : W → AH → Prop} (h : (okW x && Nat.ble (dpW x) 60 && (okW y && Nat.ble (dpW y) 60)) = true) (k : K (.bl (eqW x y)) G) : fEq x y G K := by
  have gen : ∃ d e, DW G x d ∧ DW G y e ∧ SeqAt.shaped d = true ∧ SeqAt.shaped e = true ∧ K (.bl (if false = true then !PyData.eqv d e else PyData.eqv d e)) G := by
    rw [Bool.and_eq_true] at h
    refine ⟨_, _, DW.of x (Bool.and_eq_true_iff.mp h.1).1, DW.of y (Bool.and_eq_true_iff.mp h.2).1, shaped_ok h.1, shaped_ok h.2, ?_⟩
    rw [pd_eqv x y (Bool.and_eq_true_iff.mp h.1).1 (Bool.and_eq_true_iff.mp h.2).1]; exact k
  cases x <;> cases y <;> first | exact gen | exact k | (refine And.intro ?_ k; simp only [okW, dpW, Bool.and_eq_true, Nat.ble_eq] at h ⊢; exact ⟨⟨h.1.1, by omega⟩, h.2.1, by omega⟩) | (simp [okW] at h; done) | skip
theorem fNe_ok {x y : W} {G : AH} {K : W → AH → Prop} (h : (okW x && Nat.ble (dpW x) 60 && (okW y && Nat.ble (dpW y) 60)) = true) (k : K (.bl (!eqW x y)) G) : fNe x y G K := by
  have gen : ∃ d e, DW G x d ∧ DW G y e ∧ SeqAt.shaped d = true ∧ SeqAt.shaped e = true ∧ K (.bl (if true = true then !PyData.eqv d e else PyData.eqv d e)) G := by
    rw [Bool.and_eq_true] at h
    refine ⟨_, _, DW.of x (Bool.and_eq_true_iff.mp h.1).1, DW.of y (Bool.and_eq_true_iff.mp h.2).1, shaped_ok h.1, shaped_ok h.2, ?_⟩
    rw [pd_eqv x y (Bool.and_eq_true_iff.mp h.1).1 (Bool.and_eq_true_iff.mp h.2).1]; exact k
  cases x <;> cases y <;> first | exact gen | exact k | (refine And.intro ?_ k; simp only [okW, dpW, Bool.and_eq_true, Nat.ble_eq] at h ⊢; exact ⟨⟨h.1.1, by omega⟩, h.2.1, by omega⟩) | (simp [okW] at h; done) | skip
section
variable {X : Cx} {a b e : Expr} {pos : Pos} {ρ : AS} {G : AH} {K : W → AH → Prop} {KB : Bool → AH → Prop}
theorem q_eq (hu : X.A.units + 64 < cLine) (h : EQ X a ρ G fun x G1 => EQ X b ρ G1 fun y G2 => fEq x y G2 K) : EQ X (.Compare a [.Eq] [b] pos) ρ G K := q_cmp (op_eq.or (op_eqD hu)) rr_eq (nomark _) h
theorem q_ne (hu : X.A.units + 64 < cLine) (h : EQ X a ρ G fun x G1 => EQ X b ρ G1 fun y G2 => fNe x y G2 K) : EQ X (.Compare a [.NotEq] [b] pos) ρ G K := q_cmp (op_ne.or (op_neD hu)) rr_ne (nomark _) h
theorem b_eq (hu : X.A.units + 64 < cLine) (h : EQ X a ρ G fun x G1 => EQ X b ρ G1 fun y G2 => fEq x y G2 (tst KB)) : BQ X (.Compare a [.Eq] [b] pos) ρ G KB := b_cmp (op_eq.or (op_eqD hu)) rr_eq (nomark _) h
theorem b_ne (hu : X.A.units + 64 < cLine) (h : EQ X a ρ G fun x G1 => EQ X b ρ G1 fun y G2 => fNe x y G2 (tst KB)) : BQ X (.Compare a [.NotEq] [b] pos) ρ G KB := b_cmp (op_ne.or (op_neD hu)) rr_ne (nomark _) h
def rIsN : R2 := fun x y H Q => y = .non ∧ Q (.bl (decide (x = .non))) H
def rNotN : R2 := fun x y H Q => y = .non ∧ Q (.bl (!decide (x = .non))) H
theorem op_isN1 : OpR X (compareOp .Is) rIsN := op_isN
theorem op_notN1 : OpR X (compareOp .IsNot) rNotN := op_notN
/-- is None, is True -/
def isN : W → Bool
  | .non => true
  | _ => false
def fIsB (neg : Bool) : WR := fun x y G K => match y with
  | .non => K (.bl (if neg then !isN x else isN x)) G
  | .bl j => (match x with
    | .bl i => K (.bl (if neg then !decide (i = j) else decide (i = j))) G
    | _ => False)
  | _ => False
theorem isN_low {H : Hp} {x : W} {u : V} (r : RV H x u) : decide (u = .non) = isN x := by
  cases x with
  | non => cases (show u = .non from r); rfl
  | bl b => cases (show u = .bl b from r); rfl
  | int b => cases (show u = .int b from r); rfl
  | str b => cases (show u = .str b from r); rfl
  | ref b => cases (show u = .ref b from r); rfl
  | ty b => cases (show u = .ty b from r); rfl
  | tup b => obtain ⟨a, vs, e, _⟩ := r; subst e; rfl
  | lst b => obtain ⟨a, vs, e, _⟩ := r; subst e; rfl
theorem rr_is {c : Ct} : RR c (fun x y H Q => rIsN x y H Q ∨ rIsB x y H Q) (fIsB false) := by
  intro x y u v H G K Q rx ry g h q
  cases y with
  | non => cases (show v = .non from ry); exact .inl ⟨rfl, q _ _ (.stay (w := .bl (isN x)) (by rw [isN_low rx]; rfl) g h)⟩
  | bl j =>
    cases x with
    | bl i => cases (show u = .bl i from rx); cases (show v = .bl j from ry); exact .inr ⟨i, j, rfl, rfl, q _ _ (.stay (w := .bl (decide (i = j))) rfl g h)⟩
    | _ => exact h.elim
  | _ => exact h.elim
theorem rr_isn {c : Ct} : RR c (fun x y H Q => rNotN x y H Q ∨ rNotB x y H Q) (fIsB true) := by
  intro x y u v H G K Q rx ry g h q
  cases y with
  | non => cases (show v = .non from ry); exact .inl ⟨rfl, q _ _ (.stay (w := .bl (!isN x)) (by rw [isN_low rx]; rfl) g h)⟩
  | bl j =>
    cases x with
    | bl i => cases (show u = .bl i from rx); cases (show v = .bl j from ry); exact .inr ⟨i, j, rfl, rfl, q _ _ (.stay (w := .bl (!decide (i = j))) rfl g h)⟩
    | _ => exact h.elim
  | _ => exact h.elim
theorem q_is (h : EQ X a ρ G fun x G1 => EQ X b ρ G1 fun y G2 => fIsB false x y G2 K) : EQ X (.Compare a [.Is] [b] pos) ρ G K := q_cmp (op_isN1.or op_isBl) rr_is (nomark _) h
theorem q_isn (h : EQ X a ρ G fun x G1 => EQ X b ρ G1 fun y G2 => fIsB true x y G2 K) : EQ X (.Compare a [.IsNot] [b] pos) ρ G K := q_cmp (op_notN1.or op_notBl) rr_isn (nomark _) h
theorem b_is (h : EQ X a ρ G fun x G1 => EQ X b ρ G1 fun y G2 => fIsB false x y G2 (tst KB)) : BQ X (.Compare a [.Is] [b] pos) ρ G KB := b_cmp (op_isN1.or op_isBl) rr_is (nomark _) h
theorem b_isn (h : EQ X a ρ G fun x G1 => EQ X b ρ G1 fun y G2 => fIsB true x y G2 (tst KB)) : BQ X (.Compare a [.IsNot] [b] pos) ρ G KB := b_cmp (op_notN1.or op_notBl) rr_isn (nomark _) h
/-- a op1 b op2 c, on whole numbers -/
theorem b_chain {c : Expr} {op op' : CmpOp} {r r' : R2} {R R' : WR} (ho : OpR X (compareOp op) r) (ho' : OpR X (compareOp op') r') (rr : RR (cc X) r R) (rr' : RR (cc X) r' R') (hm : lastMarks [op, op'] [b, c] = false)
    (h : EQ X a ρ G fun x G1 => EQ X b ρ G1 fun y G2 => R x y G2 (tst fun k G3 => ifB k (EQ X c ρ G3 fun z G4 => R' y z G4 (tst KB)) (KB false G3))) : BQ X (.Compare a [op, op'] [b, c] pos) ρ G KB :=
  BQ.of (pt_chain ho ho' pe_E pe_E pe_E hm) fun σ H rs rg => ⟨ρ, G, _, h, rs, rg, fun u H1 ⟨x, G1, k1, rx, rg1, hb⟩ => ⟨ρ, G1, _, hb, rs.mono k1, rg1, fun v H2 ⟨y, G2, k2, ry, rg2, hr⟩ =>
    rr x y u v H2 G2 _ _ (rx.mono k2) ry rg2 hr fun z H' q => by
      obtain ⟨k, e, G3, k3, rg3, q⟩ := tst_of q
      refine ⟨k, e, ?_⟩
      cases k with
      | false => exact ⟨false, rfl, G3, (k1.trans k2).trans k3, rg3, q.h⟩
      | true => exact ⟨ρ, G3, _, q.h, rs.mono ((k1.trans k2).trans k3), rg3, fun w H4 ⟨z', G4, k4, rz, rg4, q4⟩ => rr' y z' v w H4 G4 _ _ (ry.mono (k3.trans k4)) rz rg4 q4 fun z2 H5 q5 => tst_of (q5.pre (((k1.trans k2).trans k3).trans k4))⟩⟩⟩
theorem b_le_lt {c : Expr} (h : EQ X a ρ G fun x G1 => EQ X b ρ G1 fun y G2 => fLe x y G2 (tst fun k G3 => ifB k (EQ X c ρ G3 fun z G4 => fLt y z G4 (tst KB)) (KB false G3))) (hm : lastMarks [.LtE, .Lt] [b, c] = false := by with_unfolding_all rfl) :
    BQ X (.Compare a [.LtE, .Lt] [b, c] pos) ρ G KB := b_chain op_le op_lt rr_IB rr_IB hm h
theorem b_le_le {c : Expr} (h : EQ X a ρ G fun x G1 => EQ X b ρ G1 fun y G2 => fLe x y G2 (tst fun k G3 => ifB k (EQ X c ρ G3 fun z G4 => fLe y z G4 (tst KB)) (KB false G3))) (hm : lastMarks [.LtE, .LtE] [b, c] = false := by with_unfolding_all rfl) :
    BQ X (.Compare a [.LtE, .LtE] [b, c] pos) ρ G KB := b_chain op_le op_le rr_IB rr_IB hm h

/-! ### x in xs -/
def fInD (neg : Bool) : WR := fun x y G K => ∃ d ds, DW G x d ∧ DW G y (.list ds) ∧ SeqAt.shaped d = true ∧ SeqAt.shaped (.list ds) = true ∧ K (.bl (if neg then !ds.any fun z => PyData.eqv z d else ds.any fun z => PyData.eqv z d)) G
theorem rr_inD {c : Ct} : RR c (rInD c.K) (fInD false) := by
  intro x y u v H G K Q rx ry g ⟨d, ds, h1, h2, s1, s2, k⟩ q
  exact ⟨d, ds, DW.low g d x u h1 rx, DW.low g _ y v h2 ry, s1, s2, q _ _ (.stay (w := .bl _) rfl g k)⟩
theorem rr_ninD {c : Ct} : RR c (rNotInD c.K) (fInD true) := by
  intro x y u v H G K Q rx ry g ⟨d, ds, h1, h2, s1, s2, k⟩ q
  exact ⟨d, ds, DW.low g d x u h1 rx, DW.low g _ y v h2 ry, s1, s2, q _ _ (.stay (w := .bl _) rfl g k)⟩
theorem q_in (hu : X.A.units + 65 < cLine) (h : EQ X a ρ G fun x G1 => EQ X b ρ G1 fun y G2 => fInD false x y G2 K) (hm : behindInMarks .In b = false := by rfl) : EQ X (.Compare a [.In] [b] pos) ρ G K := q_cmp (op_inD hu) rr_inD hm h
theorem q_nin (hu : X.A.units + 65 < cLine) (h : EQ X a ρ G fun x G1 => EQ X b ρ G1 fun y G2 => fInD true x y G2 K) (hm : behindInMarks .NotIn b = false := by rfl) : EQ X (.Compare a [.NotIn] [b] pos) ρ G K := q_cmp (op_notInD hu) rr_ninD hm h
theorem b_in (hu : X.A.units + 65 < cLine) (h : EQ X a ρ G fun x G1 => EQ X b ρ G1 fun y G2 => fInD false x y G2 (tst KB)) (hm : behindInMarks .In b = false := by rfl) : BQ X (.Compare a [.In] [b] pos) ρ G KB := b_cmp (op_inD hu) rr_inD hm h
theorem b_nin (hu : X.A.units + 65 < cLine) (h : EQ X a ρ G fun x G1 => EQ X b ρ G1 fun y G2 => fInD true x y G2 (tst KB)) (hm : behindInMarks .NotIn b = false := by rfl) : BQ X (.Compare a [.NotIn] [b] pos) ρ G KB := b_cmp (op_notInD hu) rr_ninD hm h

/-- data in a list of data -/
theorem any_pd {x : W} : ∀ xs : List W, okW x = true → okWs xs = true → (pdWs xs).any (fun z => PyData.eqv z (pdW x)) = xs.any fun z => eqW z x
  | [], _, _ => rfl
  | y :: ys, hx, h => by
    simp only [okWs, Bool.and_eq_true] at h
    rw [pdWs, List.any_cons, List.any_cons, pd_eqv y x h.1 hx, any_pd ys hx h.2]
theorem DWs.ofA {G : AH} {w : W} {xs : List W} (h : LsA G w xs) (o : okWs xs = true) : DW G w (.list (pdWs xs)) := by
  cases w with
  | lst ys => cases (show ys = xs from h); exact .lsv (DWs.of _ o)
  | ref a => exact .lst h (DWs.of xs o)
  | _ => exact h.elim
theorem fIn_ok {x y : W} {xs : List W} {G : AH} {K : W → AH → Prop} {neg : Bool} (hy : LsA G y xs) (h : (okW x && Nat.ble (dpW x) 60 && (okWs xs && Nat.ble (dpWs xs) 60)) = true) (k : K (.bl (if neg then !xs.any fun z => eqW z x else xs.any fun z => eqW z x)) G) : fInD neg x y G K := by
  rw [Bool.and_eq_true] at h
  have o1 := (Bool.and_eq_true_iff.mp h.1).1
  have o2 := (Bool.and_eq_true_iff.mp h.2).1
  refine ⟨_, _, DW.of x o1, DWs.ofA hy o2, shaped_ok h.1, shaped_lst h.2, ?_⟩
  rw [any_pd xs o1 o2]; exact k
/-! ### items, slices -/
def onO {α : Type} (o : Option α) (k : α → Prop) : Prop := match o with
  | some v => k v
  | none => False
def fIx : WR := fun x y G K => match x, y with
  | .tup xs, .int i => onO (atI xs i) fun v => K v G
  | .ref a, .int i => ∃ xs v, G a = some (.lst xs) ∧ atI xs i = some v ∧ K v G
  | .lst xs, .int i => onO (atI xs i) fun v => K v G
  | .str z, .int i => z.length ≤ sizeLine ∧ ∃ c, atI z.cps.toList i = some c ∧ K (.str ⟨#[c]⟩) G
  | _, _ => False
theorem RVs.atI {H : Hp} {ws : List W} {vs : List V} {i : Int} {w : W} (r : RVs H ws vs) (h : atI ws i = some w) : ∃ v, L2.atI vs i = some v ∧ RV H w v := by
  unfold L2.atI at h ⊢
  rw [← r.length]
  cases e : ixN ws.length i with
  | none => rw [e] at h; cases h
  | some j =>
    rw [e] at h
    obtain ⟨v, h1, h2⟩ := r.get (show ws[j]? = some w from h)
    exact ⟨v, h1, h2⟩
theorem rr_ix {c : Ct} : RR c (rIx c.K) fIx := by
  intro x y u v H G K Q rx ry g h q
  cases y with
  | int i =>
    cases (show v = .int i from ry)
    cases x with
    | tup xs =>
      obtain ⟨a, vs, e, hv, r⟩ := rx
      subst e
      have h : onO (atI xs i) fun v => K v G := h
      cases e : atI xs i with
      | none => rw [e] at h; exact h.elim
      | some w =>
        rw [e] at h
        obtain ⟨v, h1, h2⟩ := r.atI e
        exact .inr (.inl ⟨a, vs, i, v, rfl, rfl, SqT.of hv, h1, q _ _ (.stay h2 g h)⟩)
    | lst xs =>
      obtain ⟨a, vs, e, hv, r⟩ := RV.sqL (K := c.K) rx
      subst e
      have h : onO (atI xs i) fun v => K v G := h
      cases e : atI xs i with
      | none => rw [e] at h; exact h.elim
      | some w =>
        rw [e] at h
        obtain ⟨v, h1, h2⟩ := r.atI e
        exact .inl ⟨a, vs, i, v, rfl, rfl, hv, h1, q _ _ (.stay h2 g h)⟩
    | ref a =>
      cases (show u = .ref a from rx)
      obtain ⟨xs, w, ha, e, k⟩ := h
      obtain ⟨vs, hv, r⟩ := g.lst ha
      obtain ⟨v, h1, h2⟩ := r.atI e
      exact .inl ⟨a, vs, i, v, rfl, rfl, SqL.of hv, h1, q _ _ (.stay h2 g k)⟩
    | str z =>
      cases (show u = .str z from rx)
      obtain ⟨hz, c, e, k⟩ := h
      exact .inr (.inr ⟨z, i, c, rfl, rfl, hz, e, q _ _ (.stay (w := .str _) rfl g k)⟩)
    | _ => exact h.elim
  | _ => cases x <;> exact h.elim
theorem q_ix (h : EQ X a ρ G fun x G1 => EQ X b ρ G1 fun y G2 => fIx x y G2 K) (hs : PlainIx b := by exact fun _ _ => rfl) : EQ X (.Subscript a b pos) ρ G K :=
  EQ.of (pe_ix ix_seq pe_E pe_E hs) fun σ H rs rg => ⟨ρ, G, _, h, rs, rg, fun u H1 ⟨x, G1, k1, rx, rg1, hb⟩ => ⟨ρ, G1, _, hb, rs.mono k1, rg1, fun v H2 ⟨y, G2, k2, ry, rg2, hr⟩ =>
    rr_ix x y u v H2 G2 K _ (rx.mono k2) ry rg2 hr fun z H' q => q.pre (k1.trans k2)⟩⟩
def cutW (xs : List W) (lo hi : Option Int) : List W := (xs.drop (HT.sIx xs.length 0 lo)).take (HT.sIx xs.length xs.length hi - HT.sIx xs.length 0 lo)
theorem RVs.cut {H : Hp} {ws : List W} {vs : List V} (r : RVs H ws vs) (lo hi : Option Int) : RVs H (cutW ws lo hi) (cutV vs lo hi) := by
  unfold cutW cutV
  rw [← r.length]
  exact (r.drop _).take _
/-- a part of a slice -/
def CO (c : Ct) (H : Hp) (K : Option Int → AH → Prop) : Option Int → Hp → Prop := fun o H' => ∃ G', Keep H H' ∧ RG c H' G' ∧ K o G'
structure OQ (X : Cx) (e : Option Expr) (ρ : AS) (G : AH) (K : Option Int → AH → Prop) : Prop where
  run : ∀ (pins : List (Addr × Obj)) (s : Shared) (σ : St) (H : Hp), Inv X pins σ H s → RS H σ ρ → RG (cc X) H G →
    wpAny (model X.prog X.w) X.A (evalPart e X.env) (fun v s' => ∃ o H', Inv X pins σ H' s' ∧ IsPart v o ∧ CO (cc X) H K o H') X.xe s
def tO (X : Cx) (e : Option Expr) : TO := fun σ H Q => ∃ ρ G K, OQ X e ρ G K ∧ RS H σ ρ ∧ RG (cc X) H G ∧ ∀ o H', CO (cc X) H K o H' → Q o H'
theorem po_O {e : Option Expr} : PO X e (tO X e) := ⟨fun pins s σ H Q I ⟨ρ, G, K, h, rs, rg, k⟩ => thn (h.run pins s σ H I rs rg) fun u s' ⟨v, H', I', r, q⟩ => ⟨v, H', I', r, k v H' q⟩⟩
theorem OQ.of {e : Option Expr} {t : TO} {K : Option Int → AH → Prop} (h : PO X e t) (k : ∀ σ H, RS H σ ρ → RG (cc X) H G → t σ H (CO (cc X) H K)) : OQ X e ρ G K := ⟨fun pins s σ H I rs rg => h.run pins s σ H _ I (k σ H rs rg)⟩
theorem o_non {K : Option Int → AH → Prop} (k : K none G) : OQ X none ρ G K := OQ.of po_none fun σ H rs rg => ⟨G, Keep.refl, rg, k⟩
theorem o_some {K : Option Int → AH → Prop} (h : EQ X e ρ G fun w G1 => onI w fun i => K (some i) G1) : OQ X (some e) ρ G K :=
  OQ.of (po_some pe_E) fun σ H rs rg => ⟨ρ, G, _, h, rs, rg, fun u H1 ⟨x, G1, k1, rx, rg1, h⟩ => by
    cases x with
    | int i => exact ⟨i, rx, G1, k1, rg1, h⟩
    | _ => exact h.elim⟩
def fSl (x : W) (lo hi : Option Int) (G : AH) (K : W → AH → Prop) : Prop := match x with
  | .tup xs => K (.tup (cutW xs lo hi)) G
  | .ref a => ∃ xs, G a = some (.lst xs) ∧ ∀ p, G p = none → K (.ref p) (aup G p (.lst (cutW xs lo hi)))
  | .lst xs => ∀ p, G p = none → K (.ref p) (aup G p (.lst (cutW xs lo hi)))
  | .str z => z.length ≤ sizeLine ∧ K (.str (cutS z lo hi)) G
  | _ => False
def rSlU (K : PySem.W.Frag) : V → Option Int → Option Int → Hp → VK → Prop := fun x lo hi H Q => rSlA K x lo hi H Q ∨ rSlL K x lo hi H Q ∨ rSlS x lo hi H Q
theorem rr_sl {c : Ct} (x : W) (u : V) (lo hi : Option Int) (H : Hp) (G : AH) (K : W → AH → Prop) (Q : VK) (rx : RV H x u) (g : RG c H G) (h : fSl x lo hi G K) (q : ∀ z H', CW c H K z H' → Q z H') : rSlU c.K u lo hi H Q := by
  cases x with
  | tup xs =>
    obtain ⟨a, vs, e, hv, r⟩ := rx
    subst e
    refine .inl ⟨a, vs, rfl, SqT.of hv, fun hw => ?_, fun hw p hp => ?_⟩
    · have e : cutW xs lo hi = xs := by
        rw [← r.length] at hw
        unfold cutW
        rw [hw.1, hw.2]
        simp
      have h : K (.tup (cutW xs lo hi)) G := h
      rw [e] at h
      exact q _ _ (.stay (w := .tup xs) ⟨a, vs, rfl, hv, r⟩ g h)
    · exact q _ _ ⟨.tup (cutW xs lo hi), G, Keep.new hp, ⟨p, _, rfl, upd_same, (r.cut lo hi).mono (Keep.new hp)⟩, g.tup hp, h⟩
  | lst xs =>
    obtain ⟨a, vs, e, hv, r⟩ := RV.sqL (K := c.K) rx
    subst e
    exact .inr (.inl ⟨a, vs, rfl, hv, fun p hp => q _ _ ⟨.ref p, _, Keep.new hp, rfl, g.newL hp (r.cut lo hi), h p (g.free hp)⟩⟩)
  | ref a =>
    cases (show u = .ref a from rx)
    obtain ⟨xs, ha, k⟩ := h
    obtain ⟨vs, hv, r⟩ := g.lst ha
    exact .inr (.inl ⟨a, vs, rfl, SqL.of hv, fun p hp => q _ _ ⟨.ref p, _, Keep.new hp, rfl, g.newL hp (r.cut lo hi), k p (g.free hp)⟩⟩)
  | str z =>
    cases (show u = .str z from rx)
    exact .inr (.inr ⟨z, rfl, h.1, q _ _ (.stay (w := .str _) rfl g h.2)⟩)
  | _ => exact h.elim
theorem q_sl {lo hi : Option Expr} {p2 : Pos} (h : EQ X a ρ G fun x G1 => OQ X lo ρ G1 fun l G2 => OQ X hi ρ G2 fun u G3 => fSl x l u G3 K) : EQ X (.Subscript a (.Slice lo hi none p2) pos) ρ G K :=
  EQ.of (pe_slice (sl_tupA.or (sl_list.or sl_str)) pe_E po_O po_O) fun σ H rs rg => ⟨ρ, G, _, h, rs, rg, fun u H1 ⟨x, G1, k1, rx, rg1, hb⟩ => ⟨ρ, G1, _, hb, rs.mono k1, rg1, fun l H2 ⟨G2, k2, rg2, hr⟩ => ⟨ρ, G2, _, hr, rs.mono (k1.trans k2), rg2, fun r H3 ⟨G3, k3, rg3, hq⟩ =>
    rr_sl x u l r H3 G3 K _ (rx.mono (k2.trans k3)) rg3 hq fun z H' q => q.pre ((k1.trans k2).trans k3)⟩⟩⟩
/-- a slice of a list that is read alone (the script) -/
def fSlF (x : W) (lo hi : Option Int) (G : AH) (K : W → AH → Prop) : Prop := match x with
  | .ref a => ∃ xs, G a = some (.fro xs) ∧ ∀ p, G p = none → K (.ref p) (aup G p (.lst (cutW xs lo hi)))
  | _ => False
end
end AL
namespace AL
open PySem PySem.Spec L2
open PyProof.Rows hiding St

/-! ### dicts whose keys are tuples -/
section
variable {κ : Type} [DecidableEq κ]
def lk (kws : List (κ × W)) (k : κ) : Option W := (kws.find? fun kv => decide (kv.1 = k)).map (·.2)
def pk (kws : List (κ × W)) (k : κ) (v : W) : List (κ × W) := if (lk kws k).isSome = true then kws.map (fun kv => if kv.1 = k then (kv.1, v) else kv) else kws ++ [(k, v)]
theorem lk_nil {k : κ} : lk ([] : List (κ × W)) k = none := rfl
theorem lk_cons {p : κ × W} {r : List (κ × W)} {k : κ} : lk (p :: r) k = if p.1 = k then some p.2 else lk r k := by
  unfold lk
  by_cases e : p.1 = k
  · simp [List.find?_cons, e]
  · simp [List.find?_cons, e]
theorem lk_app {r : List (κ × W)} {k j : κ} {v : W} : lk (r ++ [(j, v)]) k = (lk r k).or (if j = k then some v else none) := by
  induction r with
  | nil => rw [List.nil_append, lk_cons]; rfl
  | cons p r ih =>
    rw [List.cons_append, lk_cons, lk_cons, ih]
    by_cases e : p.1 = k
    · rw [if_pos e, if_pos e]; rfl
    · rw [if_neg e, if_neg e]
theorem lk_map {r : List (κ × W)} {k j : κ} {v : W} : lk (r.map fun kv => if kv.1 = k then (kv.1, v) else kv) j = if j = k then (lk r k).map fun _ => v else lk r j := by
  induction r with
  | nil => simp [lk]
  | cons p r ih =>
    rw [List.map_cons, lk_cons, ih, lk_cons, lk_cons]
    by_cases e : p.1 = k
    · by_cases q : j = k
      · simp [e, q]
      · simp [e, q, Ne.symm q]
    · by_cases q : j = k
      · subst q; simp [e]
      · simp [e, q]
theorem lk_pk (r : List (κ × W)) (k j : κ) (v : W) : lk (pk r k v) j = if j = k then some v else lk r j := by
  unfold pk
  by_cases h : (lk r k).isSome = true
  · rw [if_pos h, lk_map]
    by_cases q : j = k
    · rw [if_pos q, if_pos q]
      obtain ⟨x, hx⟩ := Option.isSome_iff_exists.mp h
      rw [hx]; rfl
    · rw [if_neg q, if_neg q]
  · rw [if_neg h, lk_app]
    have e : lk r k = none := by simpa using h
    by_cases q : j = k
    · subst q; rw [e]; simp
    · rw [if_neg (Ne.symm q), if_neg q]; simp
theorem pk_len (r : List (κ × W)) (k : κ) (v : W) : (pk r k v).length ≤ r.length + 1 := by
  unfold pk
  split
  · rw [List.length_map]; omega
  · rw [List.length_append]; simp
theorem pk_new {r : List (κ × W)} {k : κ} (v : W) (h : lk r k = none) : pk r k v = r ++ [(k, v)] := by
  unfold pk
  rw [h]
  exact if_neg (by simp)
end

/-- the kept entries -/
def RawE (es : List (NestedKey × Addr × V)) (xs : List (NestedKey × Addr × Value)) : Prop := Paired (fun (p : NestedKey × Addr × V) (q : NestedKey × Addr × Value) => p.1 = q.1 ∧ p.2.1 = q.2.1 ∧ RelV p.2.2 q.2.2) es xs
def stE (es : List (NestedKey × Addr × V)) (k : NestedKey) (b : Addr) (v : V) : List (NestedKey × Addr × V) :=
  if (es.any fun x => decide (x.1 = k)) = true then es.map (fun x => if x.1 = k then (x.1, x.2.1, v) else x) else es ++ [(k, b, v)]
theorem RawE.any {es : List (NestedKey × Addr × V)} {xs : List (NestedKey × Addr × Value)} (r : RawE es xs) (k : NestedKey) : (es.any fun x => decide (x.1 = k)) = (atKey xs k).isSome := by
  unfold RawE at r
  induction r with
  | nil => rfl
  | @cons p q ps qs h t ih =>
    rw [List.any_cons, ih]
    unfold atKey
    rw [List.find?_cons, h.1]
    by_cases e : q.1 = k
    · simp [e]
    · simp [e]
theorem RawE.store {es : List (NestedKey × Addr × V)} {xs : List (NestedKey × Addr × Value)} (r : RawE es xs) (k : NestedKey) (b : Addr) {v : V} {u : Value} (rv : RelV v u) : RawE (stE es k b v) (storedH xs k b u) := by
  unfold stE storedH
  rw [r.any k]
  split
  · have all : ∀ {ps : List (NestedKey × Addr × V)} {qs : List (NestedKey × Addr × Value)}, RawE ps qs → RawE (ps.map fun x => if x.1 = k then (x.1, x.2.1, v) else x) (qs.map (putAt k u)) := by
      intro ps qs r
      unfold RawE at r
      induction r with
      | nil => exact .nil
      | @cons p q ps qs h t ih =>
        rw [List.map_cons, List.map_cons]
        refine .cons ?_ ih
        unfold putAt
        by_cases e : p.1 = k
        · rw [if_pos e, if_pos (h.1.symm.trans e)]; exact ⟨h.1, h.2.1, rv⟩
        · rw [if_neg e, if_neg (fun z => e (h.1.trans z))]; exact h
    exact all r
  · unfold RawE at r ⊢
    have app : ∀ {l1 l1' : List (NestedKey × Addr × V)} {l2 l2' : List (NestedKey × Addr × Value)}, RawE l1 l2 → RawE l1' l2' → RawE (l1 ++ l1') (l2 ++ l2') := by
      intro l1 l1' l2 l2' h1 h2
      unfold RawE at h1
      induction h1 with
      | nil => exact h2
      | cons h t ih => exact .cons h ih
    exact app r (.cons ⟨rfl, rfl, rv⟩ .nil)
theorem NWV.any {H : Hp} {kws : List (W × W)} {es : List (NestedKey × Addr × V)} (r : NWV H kws es) {k : W} (hk : kbl k = true) : (es.any fun x => decide (x.1 = nk k)) = (lk kws k).isSome := by
  unfold NWV at r
  induction r with
  | nil => rfl
  | @cons p q ps qs h t ih =>
    rw [List.any_cons, ih, lk_cons, h.1]
    by_cases e : p.1 = k
    · subst e; simp
    · rw [if_neg e]
      have : nk p.1 ≠ nk k := fun z => e (nk_inj _ _ h.2.1 hk z)
      simp [this]
theorem NWV.store {H : Hp} {kws : List (W × W)} {es : List (NestedKey × Addr × V)} (r : NWV H kws es) {k : W} {b : Addr} {w : W} {v : V} (hk : kbl k = true) (hd : (nk k).depth ≤ 8) (rk : RV H k (.ref b)) (rw' : RV H w v) : NWV H (pk kws k w) (stE es (nk k) b v) := by
  have any := r.any hk
  unfold pk stE
  rw [any]
  split
  · clear any
    unfold NWV at r ⊢
    induction r with
    | nil => exact .nil
    | @cons p q ps qs h t ih =>
      rename_i hh
      rw [List.map_cons, List.map_cons]
      refine .cons ?_ ?_
      · by_cases e : p.1 = k
        · rw [if_pos e, if_pos (by rw [h.1, e])]; exact ⟨h.1, h.2.1, h.2.2.1, h.2.2.2.1, rw'⟩
        · rw [if_neg e, if_neg (fun z => e (nk_inj _ _ h.2.1 hk (h.1.symm.trans z)))]; exact h
      · have all : ∀ {ps : List (W × W)} {qs : List (NestedKey × Addr × V)}, NWV H ps qs → NWV H (ps.map fun kv => if kv.1 = k then (kv.1, w) else kv) (qs.map fun x => if x.1 = nk k then (x.1, x.2.1, v) else x) := by
          intro ps qs r
          unfold NWV at r
          induction r with
          | nil => exact .nil
          | @cons p q ps qs h t ih =>
            rw [List.map_cons, List.map_cons]
            refine .cons ?_ ih
            by_cases e : p.1 = k
            · rw [if_pos e, if_pos (by rw [h.1, e])]; exact ⟨h.1, h.2.1, h.2.2.1, h.2.2.2.1, rw'⟩
            · rw [if_neg e, if_neg (fun z => e (nk_inj _ _ h.2.1 hk (h.1.symm.trans z)))]; exact h
        exact all t
  · have app : ∀ {l1 l1' : List (W × W)} {l2 l2' : List (NestedKey × Addr × V)}, NWV H l1 l2 → NWV H l1' l2' → NWV H (l1 ++ l1') (l2 ++ l2') := by
      intro l1 l1' l2 l2' h1 h2
      unfold NWV at h1
      induction h1 with
      | nil => exact h2
      | cons h t ih => exact .cons h ih
    exact app r (.cons ⟨rfl, hk, hd, rk, rw'⟩ .nil)
/-- what is found -/
theorem found_of {H : Hp} {kws : List (W × W)} {es : List (NestedKey × Addr × V)} {xs : List (NestedKey × Addr × Value)} (r : NWV H kws es) (q : RawE es xs) {k : W} (hk : kbl k = true) :
    match lk kws k with
    | some w => ∃ b v u, atKey xs (nk k) = some (b, u) ∧ RV H w v ∧ RelV v u
    | none => atKey xs (nk k) = none := by
  unfold NWV at r
  induction r generalizing xs with
  | nil =>
    unfold RawE at q
    cases q
    rfl
  | @cons p e ps es' h t ih =>
    unfold RawE at q
    cases q with
    | @cons _ x _ xs' hq tq =>
      have ih := ih tq
      rw [lk_cons]
      unfold atKey
      rw [List.find?_cons, ← hq.1, h.1]
      by_cases z : p.1 = k
      · subst z
        rw [if_pos rfl, decide_eq_true rfl]
        exact ⟨x.2.1, e.2.2, x.2.2, rfl, h.2.2.2.2, hq.2.2⟩
      · rw [if_neg z, decide_eq_false (fun y => z (nk_inj _ _ h.2.1 hk y))]
        exact ih
mutual
/-- a tracked tuple is a key -/
theorem nested_of {X : Cx} {pins : List (Addr × Obj)} {σ : St} {H : Hp} {s : Shared} (I : Inv X pins σ H s) : ∀ (w : W) (v : V) (u : Value), kbl w = true → RV H w v → RelV v u → NestedIs s.heap (nk w) u
  | .non, _, _, _, h, r => by cases (show _ = V.non from h); cases r; exact .none
  | .bl _, _, _, hk, _, _ => by simp [kbl] at hk
  | .int i, _, _, _, h, r => by cases (show _ = V.int i from h); obtain ⟨t, rfl⟩ := r; exact .int i t
  | .str x, _, _, _, h, r => by cases (show _ = V.str x from h); obtain ⟨t, rfl⟩ := r; exact .text x t
  | .ref _, _, _, hk, _, _ => by simp [kbl] at hk
  | .ty _, _, _, hk, _, _ => by simp [kbl] at hk
  | .tup ws, _, _, hk, ⟨a, vs, e, ha, rr⟩, r => by
    subst e
    cases r
    obtain ⟨its, rv, ⟨o, ho, hc, n, hd⟩, _⟩ := I.tuple (SqT.of ha)
    exact .tup ho hc hd (nesteds_of I ws vs its (by simpa [kbl] using hk) rr rv)
theorem nesteds_of {X : Cx} {pins : List (Addr × Obj)} {σ : St} {H : Hp} {s : Shared} (I : Inv X pins σ H s) : ∀ (ws : List W) (vs : List V) (us : List Value), kbls ws = true → RVs H ws vs → Vals vs us → NestedAll s.heap (nks ws) us
  | [], _, _, _, h, r => by cases (show _ = ([] : List V) from h); cases r; exact .nil
  | w :: ws, _, _, hk, ⟨v, vs, e, h1, h2⟩, r => by
    subst e
    simp only [kbls, Bool.and_eq_true] at hk
    cases r with
    | cons r1 r2 => exact .cons (nested_of I w v _ hk.1 h1 r1) (nesteds_of I ws vs _ hk.2 h2 r2)
end
def keyOk (w : W) : Bool := match w with
  | .tup ws => kbls ws && Nat.ble (NestedKey.depthAll (nks ws)) 7
  | _ => false
theorem keyOk_k {w : W} (h : keyOk w = true) : kbl w = true ∧ (nk w).depth ≤ 8 := by
  cases w with
  | tup ws =>
    simp only [keyOk, Bool.and_eq_true] at h
    refine ⟨by rw [kbl]; exact h.1, ?_⟩
    rw [nk, NestedKey.depth]
    have := Nat.le_of_ble_eq_true h.2
    omega
  | _ => simp [keyOk] at h
section
variable {X : Cx} {pins : List (Addr × Obj)} {σ : St} {H : Hp} {s : Shared} {G : AH} {d : Addr} {kws : List (W × W)}
theorem dictN_at (I : Inv X pins σ H s) (g : RG (cc X) H G) (h : G d = some (.dN kws)) : ∃ es xs, H d = some (.ext (rawN X.prog X.w d es)) ∧ NWV H kws es ∧ RawE es xs ∧ es.length ≤ sizeLine ∧ (d == sysModules) = false ∧ s.heap.DictOfH (nestedKind X.prog X.w) d xs := by
  obtain ⟨es, hd, r⟩ := g d _ h
  obtain ⟨⟨z, ns, xs, q, o, es', ep, h1, h2, h3, h4, h5⟩, _⟩ := I.hok d _ hd
  refine ⟨es, xs, hd, r, q, z, ns, o, es', ep, h1, h2, h3, h4, fun x hx => ?_, h5⟩
  have go : ∀ {kws : List (W × W)} {es : List (NestedKey × Addr × V)} {xs : List (NestedKey × Addr × Value)}, NWV H kws es → RawE es xs → ∀ x ∈ xs, (nestedKind X.prog X.w).is s.heap x.1 x.2.1 := by
    intro kws es xs r q
    unfold NWV at r
    induction r generalizing xs with
    | nil => intro x hx; unfold RawE at q; cases q; cases hx
    | cons h t ih =>
      intro x hx
      unfold RawE at q
      cases q with
      | cons hq tq =>
        rcases List.mem_cons.mp hx with e | hx
        · subst e
          rw [← hq.1, ← hq.2.1, h.1]
          exact ⟨nested_of I _ _ _ h.2.1 h.2.2.2.1 rfl, h.2.2.1⟩
        · exact ih tq x hx
  exact go r q x hx
theorem RawE.len {es : List (NestedKey × Addr × V)} {xs : List (NestedKey × Addr × Value)} (q : RawE es xs) : es.length = xs.length := Paired.length q
theorem NWV.len {es : List (NestedKey × Addr × V)} (q : NWV H kws es) : kws.length = es.length := Paired.length q
/-- behind a store -/
theorem dictN_put (I : Inv X pins σ H s) (g : RG (cc X) H G) (h : G d = some (.dN kws)) {k w : W} {b : Addr} {v : V} {u : Value} (hk : keyOk k = true) (rk : RV H k (.ref b)) (rw' : RV H w v) (ru : RelV v u) (hl : kws.length < sizeLine) {Q : Unit → Shared → Prop} (hu : X.A.units + 9 < cLine)
    (q : ∀ s' H', Inv X pins σ H' s' → Keep H H' → RG (cc X) H' (aup G d (.dN (pk kws k w))) → Q () s') : wpAny (model X.prog X.w) X.A (setItem (.ref d) (.ref b) u) Q X.xe s := by
  obtain ⟨es, xs, hd, r, e, hz, ns, dd⟩ := dictN_at I g h
  obtain ⟨hk1, hk2⟩ := keyOk_k hk
  refine wpAny_setItem_heap (knd := nestedKind X.prog X.w) (k := nk k) (show X.A.in1.units + 8 < cLine by show X.A.units + 1 + 8 < cLine; omega) ⟨nested_of I k _ _ hk1 rk rfl, hk2⟩ dd (fun h' dd' hs => ?_) (by rw [← e.len, ← r.len]; omega)
  have kk : Keep H (upd H d (.ext (rawN X.prog X.w d (stE es (nk k) b v)))) := Keep.mut hd trivial
  obtain ⟨o, es', ep, h1, h2, h3, h4, h5, h6⟩ := dd'
  have r2 : NWV H (pk kws k w) (stE es (nk k) b v) := r.store hk1 hk2 rk rw'
  have raw : rawN X.prog X.w d (stE es (nk k) b v) h' := ⟨by rw [← r2.len]; have := pk_len kws k w; omega, ns, _, e.store (nk k) b ru, o, es', ep, h1, h2, h3, h4, h6⟩
  refine q _ (upd H d (.ext (rawN X.prog X.w d (stE es (nk k) b v)))) (d_write I (by rw [hd]; exact True.intro) hs ⟨o, h1⟩ ⟨raw, ⟨o, h1⟩, fun g1 g2 p1 p2 => ?_⟩) kk (g.put kk (show RO _ _ d (.dN _) from ⟨_, upd_same, Paired.mapP r2 fun _ _ z => ⟨z.1, z.2.1, z.2.2.1, z.2.2.2.1.mono kk, z.2.2.2.2.mono kk⟩⟩))
  obtain ⟨z1, z2, ys, z3, o2, e2, ep2, z4, z5⟩ := p1
  exact ⟨z1, z2, ys, z3, o2, e2, ep2, p2 _ z4, z5⟩
end
section
variable {X : Cx} {a b o i e : Expr} {pos : Pos} {ρ : AS} {G : AH} {K : W → AH → Prop} {KB : Bool → AH → Prop}
/-- {} to hold tuples as keys -/
theorem q_dnewN (k : ∀ p, G p = none → K (.ref p) (aup G p (.dN []))) : EQ X (.Dict [] [] pos) ρ G K := ⟨fun pins s σ H I rs rg => by
  have hn : H s.heap.objs.size = none := I.hok.fresh (Nat.le_refl _)
  have raw : rawN X.prog X.w s.heap.objs.size [] (s.heap.push { cls := .type "dict", data := .dict #[] }) := ⟨Nat.zero_le _, beq_eq_false_iff_ne.mpr (Ne.symm (Nat.ne_of_lt I.big)), [], .nil, _, #[], 0, Heap.get?_push_size _ rfl, ⟨rfl, rfl, rfl⟩, rfl, rfl, List.nodup_nil⟩
  refine wpAny_Dict_empty ⟨.ref s.heap.objs.size, _, I.laid (a := s.heap.objs.size) (o := .ext (rawN X.prog X.w s.heap.objs.size [])) (t' := s.toks) (fun _ _ q => Heap.get?_push_of_some _ q) (Nat.le_refl _) ⟨raw, ⟨_, Heap.get?_push_size _ rfl⟩, fun g1 g2 p1 p2 => ?_⟩, rfl, .ref s.heap.objs.size, _, Keep.new hn, rfl, rg.new hn (show RO _ _ _ (.dN []) from ⟨[], upd_same, .nil⟩), k _ (rg.free hn)⟩
  obtain ⟨z1, z2, ys, z3, o2, e2, ep2, z4, z5⟩ := p1
  exact ⟨z1, z2, ys, z3, o2, e2, ep2, p2 _ z4, z5⟩⟩
theorem ref_of {H : Hp} {w : W} {v : V} (h : keyOk w = true) (r : RV H w v) : ∃ b, v = .ref b := by
  cases w with
  | tup ws => obtain ⟨a, _, e, _⟩ := r; exact ⟨a, e⟩
  | _ => simp [keyOk] at h
def fDin (neg : Bool) : WR := fun x y G K => match y with
  | .ref d => ∃ kws, G d = some (.dN kws) ∧ keyOk x = true ∧ K (.bl (if neg then !(lk kws x).isSome else (lk kws x).isSome)) G
  | _ => False
theorem in_some {H : Hp} {kws : List (W × W)} {es : List (NestedKey × Addr × V)} {xs : List (NestedKey × Addr × Value)} (r : NWV H kws es) (q : RawE es xs) {k : W} (hk : kbl k = true) : (atKey xs (nk k)).isSome = (lk kws k).isSome := by
  rw [← q.any, r.any hk]
theorem rr_din (hu : X.A.units + 9 < cLine) : OpR X (compareOp .In) (fun u v H Q => ∃ x y G K, RV H x u ∧ RV H y v ∧ RG (cc X) H G ∧ fDin false x y G K ∧ ∀ z H', CW (cc X) H K z H' → Q z H') := by
  rintro pins s σ H u v uu vv Q I ru rv ⟨x, y, G, K, rx, ry, g, h, q⟩
  cases y with
  | ref d =>
    obtain ⟨kws, hd, hk, k⟩ := h
    cases (show v = .ref d from ry)
    cases (show vv = Value.ref d from rv)
    obtain ⟨bk, e⟩ := ref_of hk rx
    subst e
    cases (show uu = Value.ref bk from ru)
    obtain ⟨es, xs, hd', r, e, hz, ns, dd⟩ := dictN_at I g hd
    obtain ⟨hk1, hk2⟩ := keyOk_k hk
    refine wpAny_in_heap (knd := nestedKind X.prog X.w) (k := nk x) (show X.A.in1.units + 8 < cLine by show X.A.units + 1 + 8 < cLine; omega) ⟨nested_of I x _ _ hk1 rx rfl, hk2⟩ ns dd ?_
    rw [in_some r e hk1]
    exact ⟨.bl _, H, I.tok _, rfl, q _ _ (.stay (w := .bl _) rfl g k)⟩
  | _ => exact h.elim
theorem rr_dnin (hu : X.A.units + 9 < cLine) : OpR X (compareOp .NotIn) (fun u v H Q => ∃ x y G K, RV H x u ∧ RV H y v ∧ RG (cc X) H G ∧ fDin true x y G K ∧ ∀ z H', CW (cc X) H K z H' → Q z H') := by
  rintro pins s σ H u v uu vv Q I ru rv ⟨x, y, G, K, rx, ry, g, h, q⟩
  cases y with
  | ref d =>
    obtain ⟨kws, hd, hk, k⟩ := h
    cases (show v = .ref d from ry)
    cases (show vv = Value.ref d from rv)
    obtain ⟨bk, e⟩ := ref_of hk rx
    subst e
    cases (show uu = Value.ref bk from ru)
    obtain ⟨es, xs, hd', r, e, hz, ns, dd⟩ := dictN_at I g hd
    obtain ⟨hk1, hk2⟩ := keyOk_k hk
    refine notIn_keyed (knd := nestedKind X.prog X.w) (k := nk x) (kvs := pairsH xs) (show X.A.in1.units + 8 < cLine by show X.A.units + 1 + 8 < cLine; omega) ⟨nested_of I x _ _ hk1 rx rfl, hk2⟩ ns ⟨xs, dd, rfl⟩ ?_
    rw [valueAt_pairsH, Option.isSome_map, in_some r e hk1]
    exact ⟨.bl _, H, I.tok _, rfl, q _ _ (.stay (w := .bl _) rfl g k)⟩
  | _ => exact h.elim
theorem b_dinN (hu : X.A.units + 9 < cLine) (h : EQ X a ρ G fun x G1 => EQ X b ρ G1 fun y G2 => fDin false x y G2 (tst KB)) (hm : behindInMarks .In b = false := by rfl) : BQ X (.Compare a [.In] [b] pos) ρ G KB :=
  b_cmp (R := fDin false) (rr_din hu) (fun x y u v H G K Q rx ry g h q => ⟨x, y, G, K, rx, ry, g, h, q⟩) hm h
theorem b_dninN (hu : X.A.units + 9 < cLine) (h : EQ X a ρ G fun x G1 => EQ X b ρ G1 fun y G2 => fDin true x y G2 (tst KB)) (hm : behindInMarks .NotIn b = false := by rfl) : BQ X (.Compare a [.NotIn] [b] pos) ρ G KB :=
  b_cmp (R := fDin true) (rr_dnin hu) (fun x y u v H G K Q rx ry g h q => ⟨x, y, G, K, rx, ry, g, h, q⟩) hm h
/-- d[k] -/
def fDgetN : WR := fun x y G K => match x with
  | .ref d => ∃ kws w, G d = some (.dN kws) ∧ keyOk y = true ∧ lk kws y = some w ∧ K w G
  | _ => False
theorem q_dgetN (hu : X.A.units + 9 < cLine) (h : EQ X o ρ G fun x G1 => EQ X i ρ G1 fun y G2 => fDgetN x y G2 K) (hs : NoSl i := by exact fun _ _ => rfl) : EQ X (.Subscript o i pos) ρ G K := ⟨fun pins s σ H I rs rg => by
  refine subD_of PySem.F.slot_dict_getitem.lookup hs (thn (h.run pins s σ H I rs rg) fun u s1 ⟨v, H1, I1, r1, x, G1, k1, rx, rg1, q1⟩ => thn (q1.run pins s1 σ H1 I1 (rs.mono k1) rg1) fun iv s2 ⟨v2, H2, I2, r2, y, G2, k2, ry, rg2, q2⟩ => ?_)
  cases x with
  | ref d =>
    obtain ⟨kws, w, hd, hk, hw, k⟩ := q2
    cases (show v = .ref d from rx)
    cases (show u = Value.ref d from r1)
    obtain ⟨bk, e⟩ := ref_of hk ry
    subst e
    cases (show iv = Value.ref bk from r2)
    obtain ⟨es, xs, hd', r, e, hz, ns, dd⟩ := dictN_at I2 rg2 hd
    obtain ⟨hk1, hk2⟩ := keyOk_k hk
    refine ⟨dd.typeIs, ?_⟩
    have f := found_of r e hk1
    rw [hw] at f
    obtain ⟨b', v', u', f1, f2, f3⟩ := f
    exact wpAny_getItem_heap (knd := nestedKind X.prog X.w) (k := nk y) (show X.A.in1.units + 8 < cLine by show X.A.units + 1 + 8 < cLine; omega) ⟨nested_of I2 y _ _ hk1 ry rfl, hk2⟩ dd f1 ⟨v', H2, I2.tok _, f3, w, G2, k1.trans k2, f2, rg2, k⟩
  | _ => exact q2.elim⟩
/-- d[k] = v, as a target -/
def fDputN : W → W → W → AH → (AH → Prop) → Prop := fun x y w G K => match x with
  | .ref d => ∃ kws, G d = some (.dN kws) ∧ keyOk y = true ∧ kws.length < sizeLine ∧ K (aup G d (.dN (pk kws y w)))
  | _ => False
theorem g_dputN {w : W} {KS : AS → AH → Prop} (hu : X.A.units + 9 < cLine) (h : EQ X o ρ G fun x G1 => EQ X i ρ G1 fun y G2 => fDputN x y w G2 (KS ρ))
    (ha : ∀ v, assign (.Subscript o i pos) X.env v = (do
      let ov ← holding [v] (eval o X.env)
      let iv ← holding [v, ov] (eval i X.env)
      standAt pos
      holding [v, ov, iv] (setItem ov iv v)
      release [v, ov, iv] []) := by intro _; rfl) : GQ X (.Subscript o i pos) w ρ G KS :=
  g_sub (t := fun u j v H Q => ∃ x y G K, RV H x u ∧ RV H y j ∧ RV H w v ∧ RG (cc X) H G ∧ fDputN x y w G K ∧ ∀ H' G', Keep H H' → RG (cc X) H' G' → K G' → Q H')
    (R := fun x y w' G K => w' = w ∧ fDputN x y w G K) (by
      rintro pins s σ H u j v uv jv vv Q I ru rj rv ⟨x, y, G, K, rx, ry, rw', g, hh, q⟩
      cases x with
      | ref d =>
        obtain ⟨kws, hd, hk, hl, k⟩ := hh
        cases (show u = .ref d from rx)
        cases (show uv = Value.ref d from ru)
        obtain ⟨bk, e⟩ := ref_of hk ry
        subst e
        cases (show jv = Value.ref bk from rj)
        exact dictN_put I g hd hk ry rw' rv hl hu fun s' H' I' kk gg => ⟨H', I', q _ _ kk gg k⟩
      | _ => exact hh.elim)
    (fun o i w' u j v H G K Q ro ri rw' g ⟨e, h⟩ q => by subst e; exact ⟨o, i, G, K, ro, ri, rw', g, h, q⟩) (h.mono fun x G1 h => h.mono fun y G2 h => ⟨rfl, h⟩) ha
end
end AL
namespace AL
open PySem PySem.Spec L2
open PyProof.Rows hiding St

/-! ### promises of defs -/
abbrev XKA := Value → Option Addr → AH → Prop
abbrev ASp := List W → AH → (W → AH → Prop) → XKA → Prop
def CX' (c : Ct) (H : Hp) (KE : XKA) : XK := fun u o H' => ∃ G', Keep H H' ∧ RG c H' G' ∧ KE u o G'
def low (c : Ct) (sp : ASp) : Sp := fun vs H Q E => ∃ ws G K KE, RVs H ws vs ∧ RG c H G ∧ sp ws G K KE ∧ (∀ v H', CW c H K v H' → Q v H') ∧ ∀ u o H', CX' c H KE u o H' → E u o H'
abbrev noE : XKA := fun _ _ _ => False
theorem fnA_of {P : Program} {w : World} {K : PySem.W.Frag} {mg : Str → Option Value} {base : Heap} {x qual : Str} {st : Stmt} {f : Addr} {fd : FuncData} {N ps : List Str} {k : Nat} {sp : ASp} (F : Fun K x qual st f fd) (S : FnScope N ps (defScope st))
    (len : ∀ ws G Kc KE, sp ws G Kc KE → ws.length = ps.length)
    (body : ∀ (cdv : Value) (A : Around) (outer : List Env) (s : Shared) (H : Hp) (E : XK) (ws : List W) (G : AH) (Kc : W → AH → Prop) (KE : XKA), Room k (A.deeper (envOfC qual (defScope st) s.heap.objs.size f cdv)) → sp ws G Kc KE →
      SQ (cxOf CX0 P w K mg base N qual (defScope st) f cdv A outer s H E).nox (defBody st) (startW N ws) G { nx := fun _ G' => ∃ G'', Sub G'' G' ∧ Kc .non G'', rt := fun v G' => ∃ G'', Sub G'' G' ∧ Kc v G'' }) :
    FnOk P w K mg base CX0 (k + 1) f fd ps (low ⟨P, w, K⟩ sp) := by
  refine F.ok S (fun vs H Q E ⟨ws, G, Kc, KE, r, g, h, _, _⟩ => by rw [← r.length]; exact len ws G Kc KE h) fun cdv A outer s H vs Q E hr ⟨ws, G, Kc, KE, r, g, h, q, _⟩ => ?_
  refine ⟨_, pss_S, startW N ws, G, _, body cdv A outer s H E ws G Kc KE hr h, RS.start r, g, ?_⟩
  exact ⟨fun σ' H' ⟨ρ', G', k1, _, g1, G'', s1, q1⟩ => q _ _ ⟨.non, G'', k1, rfl, g1.sub s1, q1⟩, fun v H' ⟨w, G', k1, r1, g1, G'', s1, q1⟩ => q v H' ⟨w, G'', k1, r1, g1.sub s1, q1⟩, fun _ _ ⟨_, _, _, _, _, z⟩ => z, fun _ _ ⟨_, _, _, _, _, z⟩ => z⟩
section
variable {X : Cx} {a b o i e : Expr} {es : List Expr} {p pos apos : Pos} {ρ : AS} {G : AH} {K : W → AH → Prop} {KB : Bool → AH → Prop} {k : Nat} {f : Addr} {fd : FuncData} {ps : List Str} {sp : ASp} {x : Str}
theorem q_call (F : FnOk X.prog X.w X.K X.mg X.base CX0 k f fd ps (low (cc X) sp)) (hr : Room k X.A) (hm : X.mg x = some (.ref f)) (hk : PySem.W.keepIn X.K (.ref f) = true) (hb : Binds X.K fd ps [])
    (h : AQ X (e :: es) ρ G fun ws G1 => sp ws G1 K noE) (hg : Gl X x := by rfl) (hdb : (x == ("__debug__" : Str)) = false := by decide) (he : starEach (e :: es) X.env = (false, eval e X.env) :: starEach es X.env := by rfl) (hpl : (backTo pos (starEach es X.env)).any (·.1) = false := by rfl) :
    EQ X (.Call (.Name x p) (e :: es) [] pos) ρ G K :=
  EQ.of (pe_call F hr hg hm hk hb .nil pass0 pa_A hdb he hpl) fun σ H rs rg => ⟨ρ, G, _, h, rs, rg, fun vs H1 ⟨ws, G1, k1, r1, rg1, _, q⟩ => by
    show low (cc X) sp (vs ++ []) H1 (CW (cc X) H K) E0
    rw [List.append_nil]
    exact ⟨ws, G1, K, noE, r1, rg1, q, fun v H' z => z.pre k1, fun _ _ _ ⟨_, _, _, z⟩ => z.elim⟩⟩
/-- .. with its last parameters left out -/
theorem q_callD {dvs : List V} {ds : List Value} {dws : List W} (F : FnOk X.prog X.w X.K X.mg X.base CX0 k f fd ps (low (cc X) sp)) (hr : Room k X.A) (hm : X.mg x = some (.ref f)) (hk : PySem.W.keepIn X.K (.ref f) = true) (hb : Binds X.K fd ps ds) (hd : Vals dvs ds) (hw : ∀ H, RVs H dws dvs)
    (h : AQ X (e :: es) ρ G fun ws G1 => sp (ws ++ dws) G1 K noE) (hg : Gl X x := by rfl) (hdb : (x == ("__debug__" : Str)) = false := by decide) (he : starEach (e :: es) X.env = (false, eval e X.env) :: starEach es X.env := by rfl) (hpl : (backTo pos (starEach es X.env)).any (·.1) = false := by rfl) :
    EQ X (.Call (.Name x p) (e :: es) [] pos) ρ G K :=
  EQ.of (pe_call F hr hg hm hk hb hd pass0 pa_A hdb he hpl) fun σ H rs rg => ⟨ρ, G, _, h, rs, rg, fun vs H1 ⟨ws, G1, k1, r1, rg1, _, q⟩ =>
    ⟨ws ++ dws, G1, K, noE, r1.append (hw H1), rg1, q, fun v H' z => z.pre k1, fun _ _ _ ⟨_, _, _, z⟩ => z.elim⟩⟩

/-- a def of the text, kept, that keeps its promise -/
structure Cal (P : Program) (w : World) (K : PySem.W.Frag) (mg : Str → Option Value) (base : Heap) (x : Str) (k : Nat) (ps : List Str) (sp : ASp) : Prop where
  ex : ∃ f fd, FnOk P w K mg base CX0 k f fd ps (low ⟨P, w, K⟩ sp) ∧ mg x = some (.ref f) ∧ PySem.W.keepIn K (.ref f) = true ∧ Binds K fd ps []
theorem q_cal {ps : List Str} (C : Cal X.prog X.w X.K X.mg X.base x k ps sp) (hr : Room k X.A) (h : AQ X (e :: es) ρ G fun ws G1 => sp ws G1 K noE) (hg : Gl X x := by rfl) (hdb : (x == ("__debug__" : Str)) = false := by decide) (he : starEach (e :: es) X.env = (false, eval e X.env) :: starEach es X.env := by rfl) (hpl : (backTo pos (starEach es X.env)).any (·.1) = false := by rfl) :
    EQ X (.Call (.Name x p) (e :: es) [] pos) ρ G K := by
  obtain ⟨f, fd, F, hm, hk, hb⟩ := C.ex
  exact q_call F hr hm hk hb h hg hdb he hpl

/-! ### built-ins -/
abbrev CRW := List W → AH → (W → AH → Prop) → Prop
def CR' (c : Ct) (r : List V → Hp → VK → Prop) (R : CRW) : Prop := ∀ ws vs H G K (Q : VK), RVs H ws vs → RG c H G → R ws G K → (∀ z H', CW c H K z H' → Q z H') → r vs H Q
theorem q_callB {id : String} {r : List V → Hp → VK → Prop} {R : CRW} (hc : CallR X (.builtin id) r) (rr : CR' (cc X) r R) (hm : X.mg x = none) (hv : bootBuiltins x = some (.builtin id)) (h : AQ X (e :: es) ρ G fun ws G1 => R ws G1 K)
    (hg : Gl X x := by rfl) (hn : x ≠ "__name__" := by decide) (hdb : (x == ("__debug__" : Str)) = false := by decide)
    (he : starEach (e :: es) X.env = (false, eval e X.env) :: starEach es X.env := by rfl) (hpl : (backTo pos (starEach es X.env)).any (·.1) = false := by rfl) : EQ X (.Call (.Name x p) (e :: es) [] pos) ρ G K :=
  EQ.of (pe_callB hc hg hm hv pa_A hn hdb he hpl) fun σ H rs rg => ⟨ρ, G, _, h, rs, rg, fun vs H1 ⟨ws, G1, k1, r1, rg1, _, q⟩ => rr ws vs H1 G1 K _ r1 rg1 q fun v H' z => z.pre k1⟩
theorem q_callT {T : String} {r : List V → Hp → VK → Prop} {R : CRW} (hc : CallR X (.type T) r) (rr : CR' (cc X) r R) (hm : X.mg x = none) (hv : bootBuiltins x = some (.type T)) (h : AQ X (e :: es) ρ G fun ws G1 => R ws G1 K)
    (hg : Gl X x := by rfl) (hn : x ≠ "__name__" := by decide) (hdb : (x == ("__debug__" : Str)) = false := by decide)
    (he : starEach (e :: es) X.env = (false, eval e X.env) :: starEach es X.env := by rfl) (hpl : (backTo pos (starEach es X.env)).any (·.1) = false := by rfl) : EQ X (.Call (.Name x p) (e :: es) [] pos) ρ G K :=
  EQ.of (pe_callTy hc hg hm hv pa_A hn hdb he hpl) fun σ H rs rg => ⟨ρ, G, _, h, rs, rg, fun vs H1 ⟨ws, G1, k1, r1, rg1, _, q⟩ => rr ws vs H1 G1 K _ r1 rg1 q fun v H' z => z.pre k1⟩
/-- len of a list, a tuple, a text -/
def fLen : CRW := fun ws G K => match ws with
  | [.tup xs] => K (.int xs.length) G
  | [.str z] => z.length ≤ sizeLine ∧ K (.int z.length) G
  | [.lst xs] => K (.int xs.length) G
  | [.ref a] => ∃ xs, G a = some (.lst xs) ∧ K (.int xs.length) G
  | _ => False
theorem rv1 {H : Hp} {w : W} {vs : List V} (r : RVs H [w] vs) : ∃ v, vs = [v] ∧ RV H w v := by
  obtain ⟨v, t, e, h, q⟩ := r
  cases (show t = [] from q)
  exact ⟨v, e, h⟩
theorem rv2 {H : Hp} {w w' : W} {vs : List V} (r : RVs H [w, w'] vs) : ∃ v v', vs = [v, v'] ∧ RV H w v ∧ RV H w' v' := by
  obtain ⟨v, t, e, h, q⟩ := r
  obtain ⟨v', e', h'⟩ := rv1 q
  subst e'
  exact ⟨v, v', e, h, h'⟩
theorem cr_len {c : Ct} : CR' c (fun xs H Q => ∃ x n, xs = [x] ∧ LenV c.K x H n ∧ Q (.int n) H) fLen := by
  intro ws vs H G K Q r g h q
  match ws, h with
  | [.tup xs], h =>
    obtain ⟨v, rfl, a, us, rfl, ha, rr⟩ := rv1 r
    exact ⟨_, us.length, rfl, .inr ⟨us, SqT.of ha, rfl⟩, q _ _ (.stay (w := .int xs.length) (by rw [rr.length]; rfl) g h)⟩
  | [.str z], h =>
    obtain ⟨v, rfl, hv⟩ := rv1 r
    cases (show v = .str z from hv)
    exact ⟨_, z.length, rfl, ⟨h.1, rfl⟩, q _ _ (.stay (w := .int z.length) rfl g h.2)⟩
  | [.lst xs], h =>
    obtain ⟨v, rfl, hv⟩ := rv1 r
    obtain ⟨a, us, e, hu, rr⟩ := RV.sqL (K := c.K) hv
    subst e
    exact ⟨_, us.length, rfl, .inl ⟨us, hu, rfl⟩, q _ _ (.stay (w := .int xs.length) (by rw [rr.length]; rfl) g h)⟩
  | [.ref a], ⟨xs, ha, k⟩ =>
    obtain ⟨v, rfl, hv⟩ := rv1 r
    cases (show v = .ref a from hv)
    obtain ⟨us, hu, rr⟩ := g.lst ha
    exact ⟨_, us.length, rfl, .inl ⟨us, SqL.of hu, rfl⟩, q _ _ (.stay (w := .int xs.length) (by rw [rr.length]; rfl) g k)⟩
theorem q_len (hm : X.mg "len" = none) (h : AQ X (e :: es) ρ G fun ws G1 => fLen ws G1 K) (hg : Gl X "len" := by rfl)
    (he : starEach (e :: es) X.env = (false, eval e X.env) :: starEach es X.env := by rfl) (hpl : (backTo pos (starEach es X.env)).any (·.1) = false := by rfl) : EQ X (.Call (.Name "len" p) (e :: es) [] pos) ρ G K :=
  q_callB call_len cr_len hm PySem.boot_len h hg (by decide) (by decide) he hpl
def f1I (g : Int → W) : CRW := fun ws G K => match ws with
  | [.int i] => K (g i) G
  | _ => False
def f2I (g : Int → Int → Int) : CRW := fun ws G K => match ws with
  | [.int i, .int j] => K (.int (g i j)) G
  | _ => False
theorem cr_2I {c : Ct} {g : Int → Int → Int} : CR' c (fun xs H Q => ∃ i j, xs = [.int i, .int j] ∧ Q (.int (g i j)) H) (f2I g) := by
  intro ws vs H G K Q r gg h q
  match ws, h with
  | [.int i, .int j], h =>
    obtain ⟨v, v', rfl, h1, h2⟩ := rv2 r
    cases (show v = .int i from h1)
    cases (show v' = .int j from h2)
    exact ⟨i, j, rfl, q _ _ (.stay (w := .int (g i j)) rfl gg h)⟩
theorem q_min2 (hm : X.mg "min" = none) (h : AQ X (e :: es) ρ G fun ws G1 => f2I (fun i j => if j < i then j else i) ws G1 K) (hc : X.calm = true := by rfl) (hg : Gl X "min" := by rfl)
    (he : starEach (e :: es) X.env = (false, eval e X.env) :: starEach es X.env := by rfl) (hpl : (backTo pos (starEach es X.env)).any (·.1) = false := by rfl) : EQ X (.Call (.Name "min" p) (e :: es) [] pos) ρ G K :=
  q_callB (call_min2 hc) cr_2I hm (by decide +kernel) h hg (by decide) (by decide) he hpl
theorem q_max2 (hm : X.mg "max" = none) (h : AQ X (e :: es) ρ G fun ws G1 => f2I (fun i j => if j > i then j else i) ws G1 K) (hc : X.calm = true := by rfl) (hg : Gl X "max" := by rfl)
    (he : starEach (e :: es) X.env = (false, eval e X.env) :: starEach es X.env := by rfl) (hpl : (backTo pos (starEach es X.env)).any (·.1) = false := by rfl) : EQ X (.Call (.Name "max" p) (e :: es) [] pos) ρ G K :=
  q_callB (call_max2 hc) cr_2I hm (by decide +kernel) h hg (by decide) (by decide) he hpl
def fAbs : CRW := fun ws G K => match ws with
  | [.int i] => K (.int (if i < 0 then -i else i)) G
  | _ => False
theorem cr_abs {c : Ct} : CR' c (fun xs H Q => ∃ i, xs = [.int i] ∧ Q (.int (if i < 0 then -i else i)) H) fAbs := by
  intro ws vs H G K Q r gg h q
  match ws, h with
  | [.int i], h =>
    obtain ⟨v, rfl, h1⟩ := rv1 r
    cases (show v = .int i from h1)
    exact ⟨i, rfl, q _ _ (.stay (w := .int _) rfl gg h)⟩
theorem q_abs (hm : X.mg "abs" = none) (h : AQ X (e :: es) ρ G fun ws G1 => fAbs ws G1 K) (hg : Gl X "abs" := by rfl)
    (he : starEach (e :: es) X.env = (false, eval e X.env) :: starEach es X.env := by rfl) (hpl : (backTo pos (starEach es X.env)).any (·.1) = false := by rfl) : EQ X (.Call (.Name "abs" p) (e :: es) [] pos) ρ G K :=
  q_callB call_abs cr_abs hm (by decide +kernel) h hg (by decide) (by decide) he hpl
/-- int of a number, of a truth value -/
def fInt : CRW := fun ws G K => match ws with
  | [.int i] => K (.int i) G
  | [.bl b] => K (.int (if b then 1 else 0)) G
  | _ => False
theorem cr_int {c : Ct} : CR' c (fun xs H Q => (∃ i, xs = [.int i] ∧ Q (.int i) H) ∨ ∃ k, xs = [.bl k] ∧ Q (.int (if k then 1 else 0)) H) fInt := by
  intro ws vs H G K Q r gg h q
  match ws, h with
  | [.int i], h =>
    obtain ⟨v, rfl, h1⟩ := rv1 r
    cases (show v = .int i from h1)
    exact .inl ⟨i, rfl, q _ _ (.stay (w := .int _) rfl gg h)⟩
  | [.bl i], h =>
    obtain ⟨v, rfl, h1⟩ := rv1 r
    cases (show v = .bl i from h1)
    exact .inr ⟨i, rfl, q _ _ (.stay (w := .int _) rfl gg h)⟩
theorem q_int1 (hm : X.mg "int" = none) (h : AQ X (e :: es) ρ G fun ws G1 => fInt ws G1 K) (hg : Gl X "int" := by rfl)
    (he : starEach (e :: es) X.env = (false, eval e X.env) :: starEach es X.env := by rfl) (hpl : (backTo pos (starEach es X.env)).any (·.1) = false := by rfl) : EQ X (.Call (.Name "int" p) (e :: es) [] pos) ρ G K :=
  q_callT call_int1 cr_int hm (by decide +kernel) h hg (by decide) (by decide) he hpl
/-- list(..) of a list, a tuple -/
def fList : CRW := fun ws G K => match ws with
  | [.lst xs] => ∀ p, G p = none → K (.ref p) (aup G p (.lst xs))
  | [.tup xs] => ∀ p, G p = none → K (.ref p) (aup G p (.lst xs))
  | [.ref a] => ∃ xs, G a = some (.lst xs) ∧ ∀ p, G p = none → K (.ref p) (aup G p (.lst xs))
  | _ => False
theorem cr_list {c : Ct} : CR' c (fun xs H Q => ∃ p ys, xs = [.ref p] ∧ (SqL c.K H p ys ∨ SqT c.K H p ys) ∧ ∀ l, H l = none → Q (.ref l) (upd H l (.lst ys))) fList := by
  intro ws vs H G K Q r g h q
  match ws, h with
  | [.tup xs], h =>
    obtain ⟨v, rfl, a, us, rfl, ha, rr⟩ := rv1 r
    exact ⟨a, us, rfl, .inr (SqT.of ha), fun p hp => q _ _ ⟨.ref p, _, Keep.new hp, rfl, g.newL hp rr, h p (g.free hp)⟩⟩
  | [.lst xs], h =>
    obtain ⟨v, rfl, hv⟩ := rv1 r
    obtain ⟨a, us, e, hu, rr⟩ := RV.sqL (K := c.K) hv
    subst e
    exact ⟨a, us, rfl, .inl hu, fun p hp => q _ _ ⟨.ref p, _, Keep.new hp, rfl, g.newL hp rr, h p (g.free hp)⟩⟩
  | [.ref a], ⟨xs, ha, k⟩ =>
    obtain ⟨v, rfl, hv⟩ := rv1 r
    cases (show v = .ref a from hv)
    obtain ⟨us, hu, rr⟩ := g.lst ha
    exact ⟨a, us, rfl, .inl (SqL.of hu), fun p hp => q _ _ ⟨.ref p, _, Keep.new hp, rfl, g.newL hp rr, k p (g.free hp)⟩⟩
theorem q_list (hm : X.mg "list" = none) (h : AQ X (e :: es) ρ G fun ws G1 => fList ws G1 K) (hg : Gl X "list" := by rfl)
    (he : starEach (e :: es) X.env = (false, eval e X.env) :: starEach es X.env := by rfl) (hpl : (backTo pos (starEach es X.env)).any (·.1) = false := by rfl) : EQ X (.Call (.Name "list" p) (e :: es) [] pos) ρ G K :=
  q_callT call_list_of cr_list hm (by decide +kernel) h hg (by decide) (by decide) he hpl
/-- tuple(..) of a list, a tuple -/
def fTuple : CRW := fun ws G K => match ws with
  | [.lst xs] => K (.tup xs) G
  | [.tup xs] => K (.tup xs) G
  | [.ref a] => ∃ xs, G a = some (.lst xs) ∧ K (.tup xs) G
  | _ => False
theorem cr_tuple {c : Ct} : CR' c (fun xs H Q => ∃ p ys, xs = [.ref p] ∧ ((SqL c.K H p ys ∧ ∀ l, H l = none → Q (.ref l) (upd H l (.tup ys))) ∨ (SqT c.K H p ys ∧ Q (.ref p) H))) fTuple := by
  intro ws vs H G K Q r g h q
  match ws, h with
  | [.tup xs], h =>
    obtain ⟨v, rfl, a, us, rfl, ha, rr⟩ := rv1 r
    exact ⟨a, us, rfl, .inr ⟨SqT.of ha, q _ _ (.stay (w := .tup xs) ⟨a, us, rfl, ha, rr⟩ g h)⟩⟩
  | [.lst xs], k =>
    obtain ⟨v, rfl, hv⟩ := rv1 r
    obtain ⟨a, us, e, hu, rr⟩ := RV.sqL (K := c.K) hv
    subst e
    exact ⟨a, us, rfl, .inl ⟨hu, fun p hp => q _ _ ⟨.tup xs, G, Keep.new hp, ⟨p, us, rfl, upd_same, rr.mono (Keep.new hp)⟩, g.tup hp, k⟩⟩⟩
  | [.ref a], ⟨xs, ha, k⟩ =>
    obtain ⟨v, rfl, hv⟩ := rv1 r
    cases (show v = .ref a from hv)
    obtain ⟨us, hu, rr⟩ := g.lst ha
    exact ⟨a, us, rfl, .inl ⟨SqL.of hu, fun p hp => q _ _ ⟨.tup xs, G, Keep.new hp, ⟨p, us, rfl, upd_same, rr.mono (Keep.new hp)⟩, g.tup hp, k⟩⟩⟩
theorem q_tuple (hm : X.mg "tuple" = none) (h : AQ X (e :: es) ρ G fun ws G1 => fTuple ws G1 K) (hg : Gl X "tuple" := by rfl)
    (he : starEach (e :: es) X.env = (false, eval e X.env) :: starEach es X.env := by rfl) (hpl : (backTo pos (starEach es X.env)).any (·.1) = false := by rfl) : EQ X (.Call (.Name "tuple" p) (e :: es) [] pos) ρ G K :=
  q_callT call_tuple_of cr_tuple hm (by decide +kernel) h hg (by decide) (by decide) he hpl
def fDivmod : CRW := fun ws G K => match ws with
  | [.int i, .int j] => CDivP i j ∧ K (.tup [.int (i / j), .int (i % j)]) G
  | _ => False
theorem cr_divmod {c : Ct} : CR' c (fun xs H Q => ∃ i j, xs = [.int i, .int j] ∧ CDivP i j ∧ ∀ p, H p = none → Q (.ref p) (upd H p (.tup [.int (i / j), .int (i % j)]))) fDivmod := by
  intro ws vs H G K Q r g h q
  match ws, h with
  | [.int i, .int j], h =>
    obtain ⟨v, v', rfl, h1, h2⟩ := rv2 r
    cases (show v = .int i from h1)
    cases (show v' = .int j from h2)
    exact ⟨i, j, rfl, h.1, fun p hp => q _ _ ⟨.tup _, G, Keep.new hp, ⟨p, _, rfl, upd_same, .cons (show RV _ (.int _) _ from rfl) (.cons (show RV _ (.int _) _ from rfl) RVs.nil)⟩, g.tup hp, h.2⟩⟩
theorem q_divmod (hm : X.mg "divmod" = none) (h : AQ X (e :: es) ρ G fun ws G1 => fDivmod ws G1 K) (hg : Gl X "divmod" := by rfl)
    (he : starEach (e :: es) X.env = (false, eval e X.env) :: starEach es X.env := by rfl) (hpl : (backTo pos (starEach es X.env)).any (·.1) = false := by rfl) : EQ X (.Call (.Name "divmod" p) (e :: es) [] pos) ρ G K :=
  q_callB call_divmodW cr_divmod hm (by decide +kernel) h hg (by decide) (by decide) he hpl
/-- any, all of a list of truth values; sum of whole numbers -/
def fAny : CRW := fun ws G K => match ws with
  | [w] => ∃ bs : List Bool, LsA G w (bs.map W.bl) ∧ K (.bl (bs.any id)) G
  | _ => False
def fAll : CRW := fun ws G K => match ws with
  | [w] => ∃ bs : List Bool, LsA G w (bs.map W.bl) ∧ K (.bl (bs.all id)) G
  | _ => False
def fSum : CRW := fun ws G K => match ws with
  | [w] => ∃ ns : List Int, LsA G w (ns.map W.int) ∧ K (.int ns.sum) G
  | _ => False
theorem cr_any' {c : Ct} : CR' c (rAny c.K) fAny := by
  intro ws vs H G K Q r g h q
  match ws, h with
  | [w], ⟨bs, ha, k⟩ =>
    obtain ⟨v, rfl, hv⟩ := rv1 r
    obtain ⟨a, us, e, hu, rr⟩ := ha.sq g hv
    subst e
    cases rr.bls_eq
    exact ⟨a, bs, rfl, hu, q _ _ (.stay (w := .bl _) rfl g k)⟩
theorem cr_all' {c : Ct} : CR' c (rAll c.K) fAll := by
  intro ws vs H G K Q r g h q
  match ws, h with
  | [w], ⟨bs, ha, k⟩ =>
    obtain ⟨v, rfl, hv⟩ := rv1 r
    obtain ⟨a, us, e, hu, rr⟩ := ha.sq g hv
    subst e
    cases rr.bls_eq
    exact ⟨a, bs, rfl, hu, q _ _ (.stay (w := .bl _) rfl g k)⟩
theorem cr_sum' {c : Ct} : CR' c (rSum c.K) fSum := by
  intro ws vs H G K Q r g h q
  match ws, h with
  | [w], ⟨bs, ha, k⟩ =>
    obtain ⟨v, rfl, hv⟩ := rv1 r
    obtain ⟨a, us, e, hu, rr⟩ := ha.sq g hv
    subst e
    cases rr.ints_eq
    exact ⟨a, bs, rfl, hu, q _ _ (.stay (w := .int _) rfl g k)⟩
theorem q_any (hm : X.mg "any" = none) (h : AQ X (e :: es) ρ G fun ws G1 => fAny ws G1 K) (hc : X.calm = true := by rfl) (hg : Gl X "any" := by rfl)
    (he : starEach (e :: es) X.env = (false, eval e X.env) :: starEach es X.env := by rfl) (hpl : (backTo pos (starEach es X.env)).any (·.1) = false := by rfl) : EQ X (.Call (.Name "any" p) (e :: es) [] pos) ρ G K :=
  q_callB (cr_any hc) cr_any' hm (by decide +kernel) h hg (by decide) (by decide) he hpl
theorem q_all (hm : X.mg "all" = none) (h : AQ X (e :: es) ρ G fun ws G1 => fAll ws G1 K) (hc : X.calm = true := by rfl) (hg : Gl X "all" := by rfl)
    (he : starEach (e :: es) X.env = (false, eval e X.env) :: starEach es X.env := by rfl) (hpl : (backTo pos (starEach es X.env)).any (·.1) = false := by rfl) : EQ X (.Call (.Name "all" p) (e :: es) [] pos) ρ G K :=
  q_callB (cr_all hc) cr_all' hm (by decide +kernel) h hg (by decide) (by decide) he hpl
theorem q_sum (hm : X.mg "sum" = none) (h : AQ X (e :: es) ρ G fun ws G1 => fSum ws G1 K) (hc : X.calm = true := by rfl) (hg : Gl X "sum" := by rfl)
    (he : starEach (e :: es) X.env = (false, eval e X.env) :: starEach es X.env := by rfl) (hpl : (backTo pos (starEach es X.env)).any (·.1) = false := by rfl) : EQ X (.Call (.Name "sum" p) (e :: es) [] pos) ρ G K :=
  q_callB (cr_sum hc) cr_sum' hm (by decide +kernel) h hg (by decide) (by decide) he hpl
end
end AL
namespace AL
open PySem PySem.Spec L2
open PyProof.Rows hiding St

/-! ### methods of lists -/
section
variable {X : Cx} {a b o i e : Expr} {es : List Expr} {p pos apos cpos : Pos} {ρ : AS} {G : AH} {K : W → AH → Prop} {KB : Bool → AH → Prop}
def MR (c : Ct) (r : V → List V → Hp → VK → Prop) (R : Addr → List W → AH → (W → AH → Prop) → Prop) : Prop := ∀ a ws vs H G K (Q : VK), RVs H ws vs → RG c H G → R a ws G K → (∀ z H', CW c H K z H' → Q z H') → r (.ref a) vs H Q
theorem q_lm {name : Str} {id : String} {r : V → List V → Hp → VK → Prop} {R : Addr → List W → AH → (W → AH → Prop) → Prop} (slot : Slot "list" name id) (hty : typeOf (.builtin id) = pure (.type "method_descriptor")) (hm : MtR X id r) (rr : MR (cc X) r R)
    (h : EQ X o ρ G fun x G1 => ∃ a xs, x = .ref a ∧ G1 a = some (.lst xs) ∧ AQ X (e :: es) ρ G1 fun ws G2 => R a ws G2 K)
    (hbase : attributeBase o name X.env (eval o X.env) = eval o X.env := by rfl)
    (hfew : ((backTo cpos (starEach (e :: es) X.env)).all (fun x => !x.1) && (backToKw cpos (keywordEach [] X.env)).all (fun x => x.1.isSome)
      && decide ((e :: es).length + ([] : List Keyword).length + (if ([] : List Keyword).isEmpty then 0 else 1) < 30)) = true := by rfl)
    (hline : (apos.endLine == cpos.line) = true := by rfl) (hs : starEach (e :: es) X.env = (false, eval e X.env) :: starEach es X.env := by rfl) (hplain : (backTo cpos (starEach es X.env)).any (·.1) = false := by rfl) :
    EQ X (.Call (.Attribute o name apos) (e :: es) [] cpos) ρ G K :=
  EQ.of (pe_bm PySem.F.plainAttrs_list slot hty hm pe_E pa_A hbase hfew hline hs hplain) fun σ H rs rg => ⟨ρ, G, _, h, rs, rg, fun u H1 ⟨x, G1, k1, rx, rg1, a, xs, ex, ha, q⟩ => by
    subst ex
    cases (show u = .ref a from rx)
    obtain ⟨vs, hv, _⟩ := rg1.lst ha
    exact ⟨.inl ⟨rfl, vs, SqL.of hv⟩, ρ, G1, _, q, rs.mono k1, rg1, fun vs H2 ⟨ws, G2, k2, r2, rg2, _, q2⟩ => rr a ws vs H2 G2 K _ r2 rg2 q2 fun z H' y => y.pre (k1.trans k2)⟩⟩
theorem q_lm0 {name : Str} {id : String} {r : V → List V → Hp → VK → Prop} {R : Addr → List W → AH → (W → AH → Prop) → Prop} (slot : Slot "list" name id) (hty : typeOf (.builtin id) = pure (.type "method_descriptor")) (hm : MtR X id r) (rr : MR (cc X) r R)
    (h : EQ X o ρ G fun x G1 => ∃ a xs, x = .ref a ∧ G1 a = some (.lst xs) ∧ R a [] G1 K)
    (hbase : attributeBase o name X.env (eval o X.env) = eval o X.env := by rfl) (hline : (apos.endLine == cpos.line) = true := by rfl) :
    EQ X (.Call (.Attribute o name apos) [] [] cpos) ρ G K :=
  EQ.of (pe_bm0 PySem.F.plainAttrs_list slot hty hm pe_E hbase hline) fun σ H rs rg => ⟨ρ, G, _, h, rs, rg, fun u H1 ⟨x, G1, k1, rx, rg1, a, xs, ex, ha, q⟩ => by
    subst ex
    cases (show u = .ref a from rx)
    obtain ⟨vs, hv, _⟩ := rg1.lst ha
    exact ⟨.inl ⟨rfl, vs, SqL.of hv⟩, rr a [] [] H1 G1 K _ RVs.nil rg1 q fun z H' y => y.pre k1⟩⟩
def mAppend (a : Addr) (ws : List W) (G : AH) (K : W → AH → Prop) : Prop := match ws with
  | [w] => ∃ xs, G a = some (.lst xs) ∧ xs.length < sizeLine ∧ K .non (aup G a (.lst (xs ++ [w])))
  | _ => False
theorem mr_append {c : Ct} : MR c rAppend mAppend := by
  intro a ws vs H G K Q r g h q
  match ws, h with
  | [w], ⟨xs, ha, hl, k⟩ =>
    obtain ⟨v, rfl, hv⟩ := rv1 r
    obtain ⟨us, hu, rr⟩ := g.lst ha
    obtain ⟨k3, g3⟩ := g.mutL hu (rr.append (.cons hv RVs.nil))
    exact ⟨a, us, v, rfl, rfl, hu, by rw [← rr.length]; exact hl, q _ _ ⟨.non, _, k3, rfl, g3, k⟩⟩
theorem q_append (h : EQ X o ρ G fun x G1 => ∃ a xs, x = .ref a ∧ G1 a = some (.lst xs) ∧ AQ X (e :: es) ρ G1 fun ws G2 => mAppend a ws G2 K)
    (hbase : attributeBase o "append" X.env (eval o X.env) = eval o X.env := by rfl)
    (hfew : ((backTo cpos (starEach (e :: es) X.env)).all (fun x => !x.1) && (backToKw cpos (keywordEach [] X.env)).all (fun x => x.1.isSome)
      && decide ((e :: es).length + ([] : List Keyword).length + (if ([] : List Keyword).isEmpty then 0 else 1) < 30)) = true := by rfl)
    (hline : (apos.endLine == cpos.line) = true := by rfl) (hs : starEach (e :: es) X.env = (false, eval e X.env) :: starEach es X.env := by rfl) (hplain : (backTo cpos (starEach es X.env)).any (·.1) = false := by rfl) :
    EQ X (.Call (.Attribute o "append" apos) (e :: es) [] cpos) ρ G K := q_lm PySem.F.slot_list_append PySem.F.type_list_append mt_append mr_append h hbase hfew hline hs hplain
def mInsert (a : Addr) (ws : List W) (G : AH) (K : W → AH → Prop) : Prop := match ws with
  | [.int i, w] => ∃ xs, G a = some (.lst xs) ∧ xs.length < sizeLine ∧ 0 ≤ i ∧ i < 2 ^ 63 ∧ K .non (aup G a (.lst (xs.take i.toNat ++ [w] ++ xs.drop i.toNat)))
  | _ => False
theorem mr_insert {c : Ct} : MR c (fun x vs H Q => ∃ (l : Addr) (xs : List V) (i : Int) (y : V), x = .ref l ∧ vs = [.int i, y] ∧ H l = some (.lst xs) ∧ xs.length < sizeLine ∧ 0 ≤ i ∧ i < 2 ^ 63 ∧
    Q .non (upd H l (.lst (xs.take i.toNat ++ [y] ++ xs.drop i.toNat)))) mInsert := by
  intro a ws vs H G K Q r g h q
  match ws, h with
  | [.int i, w], ⟨xs, ha, hl, h0, h1, k⟩ =>
    obtain ⟨v, v', rfl, hv, hv'⟩ := rv2 r
    cases (show v = .int i from hv)
    obtain ⟨us, hu, rr⟩ := g.lst ha
    obtain ⟨k3, g3⟩ := g.mutL hu (((rr.take i.toNat).append (.cons hv' RVs.nil)).append (rr.drop i.toNat))
    exact ⟨a, us, i, v', rfl, rfl, hu, by rw [← rr.length]; exact hl, h0, h1, q _ _ ⟨.non, _, k3, rfl, g3, k⟩⟩
theorem q_insert (slot : Slot "list" "insert" "list.insert") (hty : typeOf (.builtin "list.insert") = pure (.type "method_descriptor")) (h : EQ X o ρ G fun x G1 => ∃ a xs, x = .ref a ∧ G1 a = some (.lst xs) ∧ AQ X (e :: es) ρ G1 fun ws G2 => mInsert a ws G2 K)
    (hbase : attributeBase o "insert" X.env (eval o X.env) = eval o X.env := by rfl)
    (hfew : ((backTo cpos (starEach (e :: es) X.env)).all (fun x => !x.1) && (backToKw cpos (keywordEach [] X.env)).all (fun x => x.1.isSome)
      && decide ((e :: es).length + ([] : List Keyword).length + (if ([] : List Keyword).isEmpty then 0 else 1) < 30)) = true := by rfl)
    (hline : (apos.endLine == cpos.line) = true := by rfl) (hs : starEach (e :: es) X.env = (false, eval e X.env) :: starEach es X.env := by rfl) (hplain : (backTo cpos (starEach es X.env)).any (·.1) = false := by rfl) :
    EQ X (.Call (.Attribute o "insert" apos) (e :: es) [] cpos) ρ G K := q_lm slot hty mt_insert mr_insert h hbase hfew hline hs hplain
/-- the first place of a whole number; how often it stands there -/
def mIndexI (a : Addr) (ws : List W) (G : AH) (K : W → AH → Prop) : Prop := match ws with
  | [.int i] => ∃ (ns : List Int) (j : Nat), G a = some (.lst (ns.map W.int)) ∧ ns[j]? = some i ∧ (∀ m, m < j → ns[m]? ≠ some i) ∧ K (.int j) G
  | _ => False
theorem mr_index {c : Ct} : MR c (rIndex c.K) mIndexI := by
  intro a ws vs H G K Q r g h q
  match ws, h with
  | [.int i], ⟨ns, j, ha, hj, hno, k⟩ =>
    obtain ⟨v, rfl, hv⟩ := rv1 r
    cases (show v = .int i from hv)
    obtain ⟨us, hu, rr⟩ := g.lst ha
    cases rr.ints_eq
    refine ⟨a, _, .int i, j, .int i, rfl, rfl, SqL.of hu, rfl, List.all_eq_true.mpr fun x hx => ?_, by rw [List.getElem?_map, hj]; rfl, by simp [eqV], fun m z hm hz => ?_, q _ _ (.stay (w := .int j) rfl g k)⟩
    · obtain ⟨n, _, rfl⟩ := List.mem_map.mp hx; rfl
    · rw [List.getElem?_map] at hz
      cases e : ns[m]? with
      | none => rw [e] at hz; cases hz
      | some n =>
        rw [e] at hz
        cases hz
        have := hno m hm
        rw [e] at this
        have : n ≠ i := fun z => this (by rw [z])
        simp [eqV, this]
def mCountI (a : Addr) (ws : List W) (G : AH) (K : W → AH → Prop) : Prop := match ws with
  | [.int i] => ∃ (ns : List Int), G a = some (.lst (ns.map W.int)) ∧ K (.int (ns.count i : Nat)) G
  | _ => False
theorem mr_count {c : Ct} : MR c (rCntI c.K) mCountI := by
  intro a ws vs H G K Q r g h q
  match ws, h with
  | [.int i], ⟨ns, ha, k⟩ =>
    obtain ⟨v, rfl, hv⟩ := rv1 r
    cases (show v = .int i from hv)
    obtain ⟨us, hu, rr⟩ := g.lst ha
    cases rr.ints_eq
    exact ⟨a, ns, i, rfl, rfl, SqL.of hu, q _ _ (.stay (w := .int _) rfl g k)⟩
theorem q_index (slot : Slot "list" "index" "list.index") (hty : typeOf (.builtin "list.index") = pure (.type "method_descriptor")) (h : EQ X o ρ G fun x G1 => ∃ a xs, x = .ref a ∧ G1 a = some (.lst xs) ∧ AQ X (e :: es) ρ G1 fun ws G2 => mIndexI a ws G2 K)
    (hbase : attributeBase o "index" X.env (eval o X.env) = eval o X.env := by rfl)
    (hfew : ((backTo cpos (starEach (e :: es) X.env)).all (fun x => !x.1) && (backToKw cpos (keywordEach [] X.env)).all (fun x => x.1.isSome)
      && decide ((e :: es).length + ([] : List Keyword).length + (if ([] : List Keyword).isEmpty then 0 else 1) < 30)) = true := by rfl)
    (hline : (apos.endLine == cpos.line) = true := by rfl) (hs : starEach (e :: es) X.env = (false, eval e X.env) :: starEach es X.env := by rfl) (hplain : (backTo cpos (starEach es X.env)).any (·.1) = false := by rfl) :
    EQ X (.Call (.Attribute o "index" apos) (e :: es) [] cpos) ρ G K := q_lm slot hty mt_index mr_index h hbase hfew hline hs hplain
theorem q_count (slot : Slot "list" "count" "list.count") (hty : typeOf (.builtin "list.count") = pure (.type "method_descriptor")) (h : EQ X o ρ G fun x G1 => ∃ a xs, x = .ref a ∧ G1 a = some (.lst xs) ∧ AQ X (e :: es) ρ G1 fun ws G2 => mCountI a ws G2 K)
    (hbase : attributeBase o "count" X.env (eval o X.env) = eval o X.env := by rfl)
    (hfew : ((backTo cpos (starEach (e :: es) X.env)).all (fun x => !x.1) && (backToKw cpos (keywordEach [] X.env)).all (fun x => x.1.isSome)
      && decide ((e :: es).length + ([] : List Keyword).length + (if ([] : List Keyword).isEmpty then 0 else 1) < 30)) = true := by rfl)
    (hline : (apos.endLine == cpos.line) = true := by rfl) (hs : starEach (e :: es) X.env = (false, eval e X.env) :: starEach es X.env := by rfl) (hplain : (backTo cpos (starEach es X.env)).any (·.1) = false := by rfl) :
    EQ X (.Call (.Attribute o "count" apos) (e :: es) [] cpos) ρ G K := q_lm slot hty mt_lcount mr_count h hbase hfew hline hs hplain
/-- list(range(..)) -/
theorem q_lrg2 {p2 pos2 : Pos} (hmr : X.mg "range" = none) (hml : X.mg "list" = none) (h : EQ X a ρ G fun w G1 => EQ X b ρ G1 fun w' G2 => onI w fun i => onI w' fun j => RgOk i j ∧ ∀ q, G2 q = none → K (.ref q) (aup G2 q (.lst (rngW i 1 (j - i).toNat)))) (hc : X.calm = true := by rfl)
    (hgr : Gl X "range" := by rfl) (hgl : Gl X "list" := by rfl) (na2 : starEach [a, b] X.env = (false, eval a X.env) :: starEach [b] X.env := by rfl) (nb : starEach [b] X.env = (false, eval b X.env) :: starEach [] X.env := by rfl)
    (na : starEach [.Call (.Name "range" p) [a, b] [] pos] X.env = (false, eval (.Call (.Name "range" p) [a, b] [] pos) X.env) :: starEach [] X.env := by rfl) : EQ X (.Call (.Name "list" p2) [.Call (.Name "range" p) [a, b] [] pos] [] pos2) ρ G K :=
  EQ.of (pe_listRg hc hgl hml (prg_2 hgr hmr pe_E pe_E na2 nb (by rw [nb]; rfl)) na) fun σ H rs rg => ⟨ρ, G, _, h, rs, rg, fun u H1 ⟨w, G1, k1, rx, rg1, q⟩ => ⟨ρ, G1, _, q, rs.mono k1, rg1, fun u2 H2 ⟨w2, G2, k2, ry, rg2, q⟩ => by
    cases w with
    | int i =>
      cases w2 with
      | int j =>
        cases (show u = .int i from rx)
        cases (show u2 = .int j from ry)
        refine ⟨i, j, rfl, rfl, q.1, fun q' hq => ⟨.ref q', _, (k1.trans k2).trans (Keep.new hq), rfl, rg2.newL hq ?_, q.2 q' (rg2.free hq)⟩⟩
        have go : ∀ l : List Nat, RVs H2 (l.map fun k => W.int (i + (k : Nat) * 1)) (l.map fun k => V.int (i + (k : Nat))) := by
          intro l
          induction l with
          | nil => exact RVs.nil
          | cons x l ih => exact .cons (by show V.int _ = V.int _; rw [Int.mul_one]) ih
        exact go _
      | _ => exact q.elim
    | _ => exact q.elim⟩⟩
theorem q_lrg1 {p2 pos2 : Pos} (hmr : X.mg "range" = none) (hml : X.mg "list" = none) (h : EQ X a ρ G fun w G1 => onI w fun j => RgOk 0 j ∧ ∀ q, G1 q = none → K (.ref q) (aup G1 q (.lst (rngW 0 1 j.toNat)))) (hc : X.calm = true := by rfl)
    (hgr : Gl X "range" := by rfl) (hgl : Gl X "list" := by rfl) (na2 : starEach [a] X.env = (false, eval a X.env) :: starEach [] X.env := by rfl)
    (na : starEach [.Call (.Name "range" p) [a] [] pos] X.env = (false, eval (.Call (.Name "range" p) [a] [] pos) X.env) :: starEach [] X.env := by rfl) : EQ X (.Call (.Name "list" p2) [.Call (.Name "range" p) [a] [] pos] [] pos2) ρ G K :=
  EQ.of (pe_listRg hc hgl hml (prg_1 hgr hmr pe_E na2) na) fun σ H rs rg => ⟨ρ, G, _, h, rs, rg, fun u H1 ⟨w, G1, k1, rx, rg1, q⟩ => by
    cases w with
    | int j =>
      cases (show u = .int j from rx)
      refine ⟨j, rfl, q.1, fun q' hq => ⟨.ref q', _, k1.trans (Keep.new hq), rfl, rg1.newL hq ?_, q.2 q' (rg1.free hq)⟩⟩
      have go : ∀ l : List Nat, RVs H1 (l.map fun k => W.int (0 + (k : Nat) * 1)) (l.map fun k => V.int (0 + (k : Nat))) := by
        intro l
        induction l with
        | nil => exact RVs.nil
        | cons x l ih => exact .cons (by show V.int _ = V.int _; rw [Int.mul_one]) ih
      have e : (j - 0).toNat = j.toNat := by rw [Int.sub_zero]
      show RVs H1 (rngW 0 1 j.toNat) (rgV 0 j)
      unfold rgV
      rw [e]
      exact go _
    | _ => exact q.elim⟩
end

/-! ### list comprehensions -/
/-- the block of a comprehension, wherever it starts -/
abbrev Blk (X : Cx) (scope : Scope) (φ : Cx → Prop) : Prop := ∀ (s : Shared) (H : Hp) (C : Addr) (cl : List (Str × Addr)) (fp : List Addr), φ (X.blk s H scope (compEnvC scope cl C X.env) fp)
/-- the tests of a comprehension -/
structure TsQ (X : Cx) (ifs : List Expr) (ρ : AS) (G : AH) (K : Bool → AH → Prop) : Prop where
  run : ∀ (pins : List (Addr × Obj)) (s : Shared) (σ : St) (H : Hp), Inv X pins σ H s → RS H σ ρ → RG (cc X) H G →
    wpAny (model X.prog X.w) X.A (forIn ifs true fun c r => if r = true then do let ok ← isTrue c X.env (eval c X.env); pure (ForInStep.yield ok) else pure (ForInStep.yield r)) (TP X pins σ (CB (cc X) H K)) X.xe s
section
variable {X : Cx} {elt tg iter c : Expr} {ifs : List Expr} {scope : Scope} {own : List (Str × Nat)} {pos : Pos} {ρ : AS} {G : AH} {K : W → AH → Prop}
theorem ts_nil {K : Bool → AH → Prop} (k : K true G) : TsQ X [] ρ G K := ⟨fun pins s σ H I rs rg => pts_nil.run pins s σ H _ I ⟨G, Keep.refl, rg, k⟩⟩
theorem ts_one {K : Bool → AH → Prop} (h : BQ X c ρ G K) : TsQ X [c] ρ G K := ⟨fun pins s σ H I rs rg => (pts_one pt_T).run pins s σ H _ I ⟨ρ, G, K, h, rs, rg, fun b H' q => q⟩⟩
end
/-! the names of a comprehension forgotten -/
theorem wipe_get (σ : St) : ∀ (vs : List Nat) (j : Nat), (L2.wipe σ vs)[j]? = if j ∈ vs then (σ[j]?).map (fun _ => none) else σ[j]?
  | [], j => by simp [L2.wipe]
  | v :: vs, j => by
    unfold L2.wipe
    have ih := wipe_get σ vs j
    by_cases e : v = j
    · subst e
      rw [if_pos List.mem_cons_self]
      by_cases l : v < (L2.wipe σ vs).length
      · rw [List.getElem?_set_self l]
        have l' : v < σ.length := by rw [wipe_length] at l; exact l
        simp [l']
      · have l' : ¬ v < σ.length := by rw [wipe_length] at l; exact l
        rw [List.getElem?_eq_none (by rw [List.length_set]; omega), List.getElem?_eq_none (by omega)]
        rfl
    · rw [List.getElem?_set_ne e, ih]
      by_cases m : j ∈ vs
      · rw [if_pos m, if_pos (List.mem_cons_of_mem _ m)]
      · rw [if_neg m, if_neg (by simp only [List.mem_cons, not_or]; exact ⟨fun q => e q.symm, m⟩)]
theorem wipe_set {σ : St} {vs : List Nat} {i : Nat} {x : Option V} (h : i ∈ vs) : L2.wipe (σ.set i x) vs = L2.wipe σ vs := by
  refine List.ext_getElem? fun j => ?_
  rw [wipe_get, wipe_get]
  by_cases m : j ∈ vs
  · rw [if_pos m, if_pos m]
    by_cases e : i = j
    · subst e
      by_cases l : i < σ.length
      · rw [List.getElem?_set_self l]; simp [l]
      · rw [List.getElem?_eq_none (by rw [List.length_set]; omega), List.getElem?_eq_none (by omega)]
    · rw [List.getElem?_set_ne e]
  · rw [if_neg m, if_neg m]
    rw [List.getElem?_set_ne (fun q => m (by rw [← q]; exact h))]
theorem wipe_wipe (σ : St) (vs : List Nat) : L2.wipe (L2.wipe σ vs) vs = L2.wipe σ vs := by
  refine List.ext_getElem? fun j => ?_
  rw [wipe_get, wipe_get]
  by_cases m : j ∈ vs
  · rw [if_pos m]
    cases σ[j]? <;> simp [m]
  · rw [if_neg m]
/-- a target of a comprehension: its names are among vs -/
structure NQ (X : Cx) (tg : Expr) (vs : List Nat) (w : W) (ρ : AS) (G : AH) (K : AS → AH → Prop) : Prop where
  run : ∀ (pins : List (Addr × Obj)) (s : Shared) (σ : St) (H : Hp) (v : V) (u : Value), Inv X pins σ H s → RS H σ ρ → RG (cc X) H G → RV H w v → RelV v u →
    wpAny (model X.prog X.w) X.A (assign tg X.env u) (fun _ s' => ∃ σ' H', Inv X pins σ' H' s' ∧ L2.wipe σ' vs = L2.wipe σ vs ∧ CS (cc X) H K σ' H') X.xe s
structure NsQ (X : Cx) (ts : List Expr) (vs : List Nat) (ws : List W) (ρ : AS) (G : AH) (K : AS → AH → Prop) : Prop where
  run : ∀ (pins : List (Addr × Obj)) (s : Shared) (σ : St) (H : Hp) (vals : List V) (us : List Value), Inv X pins σ H s → RS H σ ρ → RG (cc X) H G → RVs H ws vals → Vals vals us →
    wpAny (model X.prog X.w) X.A (assignInOrder ((assignEach ts X.env).map (·.2)) us) (fun _ s' => ∃ σ' H', Inv X pins σ' H' s' ∧ L2.wipe σ' vs = L2.wipe σ vs ∧ CS (cc X) H K σ' H') X.xe s
section
variable {X : Cx} {pos : Pos} {vs : List Nat} {ρ : AS} {G : AH} {K : AS → AH → Prop}
theorem n_name {x : Str} {i : Nat} {w : W} (hN : X.N.Nodup) (k : K (ρ.set i (some w)) G) (hi : X.N[i]? = some x := by rfl) (hv : i ∈ vs := by decide) (hx : Loc X.env.scope x := by first | exact .inl rfl | exact .inr rfl)
    (hf : X.fn x = true ∨ X.env.scope.names.lookup x = some .local := by first | exact .inl rfl | exact .inr rfl) : NQ X (.Name x pos) vs w ρ G K :=
  ⟨fun pins s σ H v u I rs rg rv r => (pg_name hN hi hx hf).run pins s σ H v u (fun σ' H' => L2.wipe σ' vs = L2.wipe σ vs ∧ CS (cc X) H K σ' H') I r ⟨wipe_set hv, _, G, Keep.refl, rs.set i rv, rg, k⟩⟩
theorem ns_nil (k : K ρ G) : NsQ X [] vs [] ρ G K := ⟨fun pins s σ H v u I rs rg rv r => pgs_nil.run pins s σ H v u (fun σ' H' => L2.wipe σ' vs = L2.wipe σ vs ∧ CS (cc X) H K σ' H') I r ⟨rv, rfl, ρ, G, Keep.refl, rs, rg, k⟩⟩
theorem ns_cons {e : Expr} {es : List Expr} {w : W} {ws : List W} (h : NQ X e vs w ρ G fun ρ1 G1 => NsQ X es vs ws ρ1 G1 K)
    (hs : (assignEach (e :: es) X.env).map (·.2) = assign e X.env :: (assignEach es X.env).map (·.2) := by rfl) : NsQ X (e :: es) vs (w :: ws) ρ G K :=
  ⟨fun pins s σ H v u I rs rg ⟨v1, vr, e1, r1, r2⟩ r => by
    subst e1
    cases r with
    | cons r rr =>
      rw [hs]
      refine assignInOrder_cons (thn (h.run pins s σ H _ _ I rs rg r1 r) fun _ s1 ⟨σ1, H1, I1, e1, ρ1, G1, k1, rs1, rg1, q1⟩ => ?_)
      exact thn (q1.run pins s1 σ1 H1 _ _ I1 rs1 rg1 (r2.mono k1) rr) fun _ s2 ⟨σ2, H2, I2, e2, q2⟩ => ⟨σ2, H2, I2, e2.trans e1, q2.pre k1⟩⟩
theorem n_tup {es : List Expr} {kk n : Nat} {ws : List W} (hl : ws.length = n) (h : NsQ X es vs ws ρ G K) (hc : X.calm = true := by rfl)
    (hn : (assignEach es X.env).length = n := by rfl) (hst : (assignEach es X.env).findIdx? (·.1) = none := by rfl) : NQ X (.Tuple es kk pos) vs (.tup ws) ρ G K :=
  ⟨fun pins s σ H v u I rs rg ⟨a, vals, e, ha, r⟩ rv => by
    subst e
    cases rv
    obtain ⟨its, rr, ht, hz⟩ := I.tuple (SqT.of ha)
    refine assign_Tuple_tuple (I.ok.hd hc) ht (by simp [hn, ← hl, r.length, rr.length]) hst fun h' hx => ?_
    have I1 : Inv X pins σ H { s with heap := h' } := I.kept (t' := s.toks) fun b o e => hx b o (Nat.ne_of_lt (Heap.lt_size e)) e
    exact h.run pins _ σ H vals _ I1 rs rg r (by simpa using rr)⟩
end
section
variable {X : Cx} {elt tg iter c : Expr} {ifs : List Expr} {scope : Scope} {own : List (Str × Nat)} {pos : Pos} {ρ : AS} {G : AH} {K : W → AH → Prop}
/-- what the turns of a comprehension ask -/
structure LcK (X : Cx) (scope : Scope) (tg elt : Expr) (ifs : List Expr) (vs : List Nat) (ρ : AS) (K : W → AH → Prop) (xs : List W) (okk : AH → Prop) (G1 : AH) : Prop where
  h : ∀ D, G1 D = none → ∃ P : Nat → AH → Prop, P 0 (aup G1 D (.lst [])) ∧ (∀ i G', i ≤ xs.length → P i G' → okk G') ∧
    (∀ i x G', xs[i]? = some x → P i G' → Blk X scope fun Y => NQ Y tg vs x (wipeW ρ vs) G' fun ρ2 G2 => Blk X scope fun Y => TsQ Y ifs ρ2 G2 fun b G3 => ifB b
      (Blk X scope fun Y => EQ Y elt ρ2 G3 fun y G4 => ∃ acc, G4 D = some (.lst acc) ∧ acc.length < sizeLine ∧ P (i + 1) (aup G4 D (.lst (acc ++ [y])))) (P (i + 1) G3)) ∧ ∀ G', P xs.length G' → K (.ref D) G'
def gB (X : Cx) (scope : Scope) (tg : Expr) (vs : List Nat) : TG := fun v σ H Q => ∃ w ρ G K, (Blk X scope fun Y => NQ Y tg vs w ρ G K) ∧ RS H σ ρ ∧ RG (cc X) H G ∧ RV H w v ∧ ∀ σ' H', L2.wipe σ' vs = L2.wipe σ vs → CS (cc X) H K σ' H' → Q σ' H'
def tsB (X : Cx) (scope : Scope) (ifs : List Expr) : TT := fun σ H Q => ∃ ρ G K, (Blk X scope fun Y => TsQ Y ifs ρ G K) ∧ RS H σ ρ ∧ RG (cc X) H G ∧ ∀ b H', CB (cc X) H K b H' → Q b H'
def tB' (X : Cx) (scope : Scope) (e : Expr) : TE := fun σ H Q => ∃ ρ G K, (Blk X scope fun Y => EQ Y e ρ G K) ∧ RS H σ ρ ∧ RG (cc X) H G ∧ ∀ b H', CW (cc X) H K b H' → Q b H'
theorem lc_read {σ : St} {H H1 : Hp} {J : It} {Q : VK} {G1 : AH} {xs : List W} {okk : AH → Prop} {vs : List Nat} (rs : RS H1 σ ρ) (rg1 : RG (cc X) H1 G1) (io : IterOk (cc X) J H1 xs okk) (k : LcK X scope tg elt ifs vs ρ K xs okk G1) (hQ : ∀ v H', CW (cc X) H1 K v H' → Q v H') :
    ∀ D, H1 D = none → ∃ W : Nat → Nat → Hp → Prop, (∃ m, W 0 m (upd H1 D (.lst []))) ∧ ∀ i m H, W i m H →
      (J.stop i H ∧ Q (.ref D) H) ∨ (J.go i H ∧ ∃ Nx : Hp → Prop, (∀ H', Nx H' → ∃ m', m' < m ∧ W (i + 1) m' H') ∧ ∀ x H', J.yld i H x H' → gB X scope tg vs x (L2.wipe σ vs) H' fun σ2 H2 => L2.wipe σ2 vs = L2.wipe σ vs ∧ tsB X scope ifs σ2 H2 fun b H3 =>
        if b = true then tB' X scope elt σ2 H3 fun y H4 => ∃ acc, H4 D = some (.lst acc) ∧ acc.length < sizeLine ∧ Nx (upd H4 D (.lst (acc ++ [y]))) else Nx H3) := by
  intro D hD
  obtain ⟨P, p0, pok, turn, fin⟩ := k.h D (rg1.free hD)
  refine ⟨fun i m H' => ∃ G', m = xs.length - i ∧ i ≤ xs.length ∧ Keep H1 H' ∧ RG (cc X) H' G' ∧ P i G', ⟨_, _, rfl, Nat.zero_le _, Keep.new hD, rg1.newL hD RVs.nil, p0⟩, ?_⟩
  rintro i m H2 ⟨G2, rfl, hi, k2, rg2, p2⟩
  by_cases hlt : i < xs.length
  · refine .inr ⟨io.go i H2 G2 k2 rg2 (pok i G2 hi p2) hlt, fun H' => ∃ G', Keep H1 H' ∧ RG (cc X) H' G' ∧ P (i + 1) G', fun H' ⟨G', k, rg', p'⟩ => ⟨xs.length - (i + 1), by omega, G', rfl, hlt, k, rg', p'⟩, fun x H' y => ?_⟩
    obtain ⟨k3, rg3, w, hw, rw'⟩ := io.yld i H2 G2 x H' k2 rg2 (pok i G2 hi p2) hlt y
    refine ⟨w, _, G2, _, turn i w G2 hw p2, (rs.mono (k2.trans k3)).wipe vs, rg3, rw', ?_⟩
    rintro σ4 H4 e4 ⟨ρ4, G4, k4, rs4, rg4, q4⟩
    refine ⟨e4.trans (wipe_wipe σ vs), ρ4, G4, _, q4, rs4, rg4, ?_⟩
    rintro b H5 ⟨G5, k5, rg5, q5⟩
    have kk : Keep H1 H5 := ((k2.trans k3).trans k4).trans k5
    cases b with
    | false => exact ⟨G5, kk, rg5, q5.h⟩
    | true =>
      refine ⟨ρ4, G5, _, q5.h, rs4.mono k5, rg5, ?_⟩
      rintro y H6 ⟨wy, G6, k6, ry, rg6, acc, ha, hl, p6⟩
      obtain ⟨vs6, h6, r6⟩ := rg6.lst ha
      obtain ⟨k7, rg7⟩ := rg6.mutL h6 (r6.append (.cons ry RVs.nil))
      exact ⟨vs6, h6, by rw [← r6.length]; exact hl, _, (kk.trans k6).trans k7, rg7, p6⟩
  · have e : i = xs.length := by omega
    subst e
    exact .inl ⟨io.stop _ H2 G2 k2 rg2 (pok _ G2 hi p2) (Nat.le_refl _), hQ _ _ ⟨.ref D, G2, k2, rfl, rg2, fin G2 p2⟩⟩
theorem q_lc (hN : X.N.Nodup) (ok : BlkOk X.N X.env.scope scope own) (h : IQ X tg iter ρ G (LcK X scope tg elt ifs (own.map (·.2)) ρ K)) (hc : X.calm = true := by rfl) (hs : ∀ x, foldedSetIterable iter X.env x = pure x := by intro _; rfl) :
    EQ X (.ListComp elt [⟨tg, iter, ifs, 0⟩] scope pos) ρ G K :=
  EQ.of (pe_lc (g := gB X scope tg (own.map (·.2))) (tt := tsB X scope ifs) (te := tB' X scope elt) hc hN pi_I ok
    (fun s0 H0 C cl fp => ⟨fun pins s σ H v u Q I r ⟨w, ρ, G, K, h, rs, rg, rv, k⟩ => thn ((h s0 H0 C cl fp).run pins s σ H v u I rs rg rv r) fun _ s' ⟨σ', H', I', e, q⟩ => ⟨σ', H', I', k σ' H' e q⟩⟩)
    (fun s0 H0 C cl fp => ⟨fun pins s σ H Q I ⟨ρ, G, K, h, rs, rg, k⟩ => thn ((h s0 H0 C cl fp).run pins s σ H I rs rg) fun b s' ⟨H', I', q⟩ => ⟨H', I', k b H' q⟩⟩)
    (fun s0 H0 C cl fp => ⟨fun pins s σ H Q I ⟨ρ, G, K, h, rs, rg, k⟩ => thn ((h s0 H0 C cl fp).run pins s σ H I rs rg) fun u s' ⟨v, H', I', r, q⟩ => ⟨v, H', I', r, k v H' q⟩⟩) hs)
    fun σ H rs rg => ⟨ρ, G, _, h, rs, rg, fun J H1 ⟨xs, okk, G1, k1, rg1, io, q⟩ => lc_read (H := H) (rs.mono k1) rg1 io q fun v H' z => z.pre k1⟩
/-- name = [..] -/
theorem s_setLc {A : AEnds} {i : Nat} {y : Str} {py spos : Pos} (hN : X.N.Nodup) (ok : BlkOk X.N X.env.scope scope own) (h : IQ X tg iter ρ G (LcK X scope tg elt ifs (own.map (·.2)) ρ fun w G1 => A.nx (ρ.set i (some w)) G1)) (hy : X.N[i]? = some y := by rfl) (hyl : X.env.scope.names.lookup y = some .local := by rfl)
    (hsw : swapsWith (.ListComp elt [⟨tg, iter, ifs, 0⟩] scope pos) (some (.Name y py)) spos.line X.env = pure true := by exact sw_true rfl rfl rfl (by decide +kernel)) (hc : X.calm = true := by rfl) (hs : ∀ x, foldedSetIterable iter X.env x = pure x := by intro _; rfl) :
    S1 X (.Assign [.Name y py] (.ListComp elt [⟨tg, iter, ifs, 0⟩] scope pos) spos) ρ G A :=
  S1.of (ps_setLc (g := gB X scope tg (own.map (·.2))) (tt := tsB X scope ifs) (te := tB' X scope elt) hc hN hy hyl hsw pi_I ok
    (fun s0 H0 C cl fp => ⟨fun pins s σ H v u Q I r ⟨w, ρ, G, K, h, rs, rg, rv, k⟩ => thn ((h s0 H0 C cl fp).run pins s σ H v u I rs rg rv r) fun _ s' ⟨σ', H', I', e, q⟩ => ⟨σ', H', I', k σ' H' e q⟩⟩)
    (fun s0 H0 C cl fp => ⟨fun pins s σ H Q I ⟨ρ, G, K, h, rs, rg, k⟩ => thn ((h s0 H0 C cl fp).run pins s σ H I rs rg) fun b s' ⟨H', I', q⟩ => ⟨H', I', k b H' q⟩⟩)
    (fun s0 H0 C cl fp => ⟨fun pins s σ H Q I ⟨ρ, G, K, h, rs, rg, k⟩ => thn ((h s0 H0 C cl fp).run pins s σ H I rs rg) fun u s' ⟨v, H', I', r, q⟩ => ⟨v, H', I', r, k v H' q⟩⟩) hs)
    fun σ H rs rg => ⟨ρ, G, _, h, rs, rg, fun J H1 ⟨xs, okk, G1, k1, rg1, io, q⟩ => lc_read (H := H) (Q := fun x H1 => gName i x σ H1 (CD (cc X) H A).nx) (rs.mono k1) rg1 io q fun v H' ⟨w, G', k, r, g, z⟩ => ⟨_, G', k1.trans k, ((rs.mono k1).mono k).set i r, g, z⟩⟩
/-- one name, no tests, each element a value and nothing else -/
theorem lk_map1 {y : Str} {i : Nat} {p : Pos} {f : W → W} {xs : List W} {okk : AH → Prop} {G1 : AH} (hN : X.N.Nodup) (hl : xs.length ≤ 100000) (ho : ∀ D ws, G1 D = none → okk (aup G1 D (.lst ws)))
    (turn : ∀ x, x ∈ xs → ∀ D ws, G1 D = none → Blk X scope fun Y => EQ Y elt (ρ.set i (some x)) (aup G1 D (.lst ws)) fun v G' => v = f x ∧ G' = aup G1 D (.lst ws)) (k : ∀ D, G1 D = none → K (.ref D) (aup G1 D (.lst (xs.map f))))
    (hi : X.N[i]? = some y := by rfl) (hx : Blk X scope fun Y => Loc Y.env.scope y := by exact fun _ _ _ _ _ => .inl rfl) (hf : Blk X scope fun Y => Y.fn y = true ∨ Y.env.scope.names.lookup y = some .local := by exact fun _ _ _ _ _ => .inr rfl) :
    LcK X scope (.Name y p) elt [] [i] ρ K xs okk G1 := ⟨fun D hD => by
  refine ⟨fun n G' => G' = aup G1 D (.lst ((xs.take n).map f)), rfl, fun n G' _ e => by subst e; exact ho D _ hD, fun n x G' hx' e => ?_, fun G' e => by subst e; rw [List.take_length]; exact k D hD⟩
  subst e
  intro s0 H0 C cl fp
  refine n_name hN ?_ hi (by simp) (hx s0 H0 C cl fp) (hf s0 H0 C cl fp)
  intro s0 H0 C cl fp
  refine ts_nil (ifT ?_)
  intro s0 H0 C cl fp
  have e : (wipeW ρ [i]).set i (some x) = ρ.set i (some x) := by
    show (ρ.set i none).set i (some x) = _
    rw [List.set_set]
  rw [e]
  refine (turn x (List.mem_of_getElem? hx') D _ hD s0 H0 C cl fp).mono fun v G' ⟨e1, e2⟩ => ?_
  subst e1 e2
  refine ⟨_, aup_same, ?_, ?_⟩
  · rw [List.length_map, List.length_take]
    exact Nat.lt_of_le_of_lt (Nat.le_trans (Nat.min_le_right _ _) hl) (by decide)
  · show aup _ D _ = aup G1 D (.lst ((xs.take (n + 1)).map f))
    rw [aup_aup, List.take_succ, hx', Option.toList_some, List.map_append]
    rfl⟩
end
/-- .. over the values of a row of things -/
theorem lk_mapZ {X : Cx} {elt : Expr} {scope : Scope} {ρ : AS} {K : W → AH → Prop} {ι : Type} {y : Str} {i : Nat} {p : Pos} {zs : List ι} (g h : ι → W) {okk : AH → Prop} {G1 : AH} (hN : X.N.Nodup) (hl : zs.length ≤ 100000) (ho : ∀ D ws, G1 D = none → okk (aup G1 D (.lst ws)))
    (turn : ∀ z, z ∈ zs → ∀ D ws, G1 D = none → Blk X scope fun Y => EQ Y elt (ρ.set i (some (g z))) (aup G1 D (.lst ws)) fun v G' => v = h z ∧ G' = aup G1 D (.lst ws)) (k : ∀ D, G1 D = none → K (.ref D) (aup G1 D (.lst (zs.map h))))
    (hi : X.N[i]? = some y := by rfl) (hx : Blk X scope fun Y => Loc Y.env.scope y := by exact fun _ _ _ _ _ => .inl rfl) (hf : Blk X scope fun Y => Y.fn y = true ∨ Y.env.scope.names.lookup y = some .local := by exact fun _ _ _ _ _ => .inr rfl) :
    LcK X scope (.Name y p) elt [] [i] ρ K (zs.map g) okk G1 := ⟨fun D hD => by
  refine ⟨fun n G' => G' = aup G1 D (.lst ((zs.take n).map h)), rfl, fun n G' _ e => by subst e; exact ho D _ hD, fun n x G' hx' e => ?_, fun G' e => by subst e; rw [List.length_map, List.take_length]; exact k D hD⟩
  subst e
  obtain ⟨z, hz, rfl⟩ : ∃ z, zs[n]? = some z ∧ g z = x := by
    rw [List.getElem?_map] at hx'
    exact Option.map_eq_some_iff.mp hx'
  intro s0 H0 C cl fp
  refine n_name hN ?_ hi (by simp) (hx s0 H0 C cl fp) (hf s0 H0 C cl fp)
  intro s0 H0 C cl fp
  refine ts_nil (ifT ?_)
  intro s0 H0 C cl fp
  have e : (wipeW ρ [i]).set i (some (g z)) = ρ.set i (some (g z)) := by
    show (ρ.set i none).set i (some (g z)) = _
    rw [List.set_set]
  rw [e]
  refine (turn z (List.mem_of_getElem? hz) D _ hD s0 H0 C cl fp).mono fun v G' ⟨e1, e2⟩ => ?_
  subst e1 e2
  refine ⟨_, aup_same, ?_, ?_⟩
  · rw [List.length_map, List.length_take]
    exact Nat.lt_of_le_of_lt (Nat.le_trans (Nat.min_le_right _ _) hl) (by decide)
  · show aup _ D _ = aup G1 D (.lst ((zs.take (n + 1)).map h))
    rw [aup_aup, List.take_succ, hz, Option.toList_some, List.map_append]
    rfl⟩
section
variable {X : Cx} {pos : Pos} {ρ : AS} {G : AH}
/-- the name in the i-th slot -/
theorem qv (i : Nat) {K : W → AH → Prop} {x : Str} {w : W} (hρ : ρ[i]? = some (some w)) (k : K w G) (hN : X.N[i]? = some x := by rfl) (hv : Vis X.env.scope x := by first | exact Or.inl rfl | exact Or.inr (Or.inl rfl) | exact Or.inr (Or.inr rfl))
    (hd : (x == ("__debug__" : Str)) = false := by decide) (hcd : (x == ("__classdict__" : Str)) = false := by decide) : EQ X (.Name x pos) ρ G K := q_var hρ k hN hv hd hcd
end
theorem u65 {k : Nat} {A : Around} (r : Room k A) : A.units + 65 < cLine := by have := r.un; omega
theorem u64 {k : Nat} {A : Around} (r : Room k A) : A.units + 64 < cLine := r.units
theorem u9 {k : Nat} {A : Around} (r : Room k A) : A.units + 9 < cLine := by have := r.un; omega
end AL
namespace AL
open PySem PySem.Spec L2
open PyProof.Rows hiding St
/-! ### the script: read alone -/
def Scr (c : Ct) (G : AH) (a : Addr) (ns : List Int) : Prop := G a = some (.fro (ns.map W.int)) ∨ ∀ H : Hp, SqL c.K H a (ns.map V.int)
theorem Scr.sq {c : Ct} {H : Hp} {G : AH} {a : Addr} {ns : List Int} (g : RG c H G) (h : Scr c G a ns) : SqL c.K H a (ns.map V.int) := by
  rcases h with h | h
  · obtain ⟨vs, h1, h2⟩ := g a _ h
    cases h2.ints_eq
    exact .inl h1
  · exact h H
theorem Scr.sub {c : Ct} {G G' : AH} {a : Addr} {ns : List Int} (h : Scr c G a ns) (s : Sub G G') : Scr c G' a ns := h.elim (fun h => .inl (s _ _ h)) .inr
section
variable {X : Cx} {a b d e : Expr} {pos : Pos} {ρ : AS} {G : AH} {K : W → AH → Prop} {A : AEnds}
def fSlS (c : Ct) (x : W) (lo hi : Option Int) (G : AH) (K : W → AH → Prop) : Prop := match x with
  | .ref a => ∃ ns, Scr c G a ns ∧ ∀ p, G p = none → K (.ref p) (aup G p (.lst ((cutW (ns.map W.int) lo hi))))
  | _ => False
theorem q_slS {lo hi : Option Expr} {p2 : Pos} (h : EQ X a ρ G fun x G1 => OQ X lo ρ G1 fun l G2 => OQ X hi ρ G2 fun u G3 => fSlS (cc X) x l u G3 K) : EQ X (.Subscript a (.Slice lo hi none p2) pos) ρ G K :=
  EQ.of (pe_slice sl_list pe_E po_O po_O) fun σ H rs rg => ⟨ρ, G, _, h, rs, rg, fun u H1 ⟨x, G1, k1, rx, rg1, hb⟩ => ⟨ρ, G1, _, hb, rs.mono k1, rg1, fun l H2 ⟨G2, k2, rg2, hr⟩ => ⟨ρ, G2, _, hr, rs.mono (k1.trans k2), rg2, fun r H3 ⟨G3, k3, rg3, hq⟩ => by
    have rx3 := rx.mono (k2.trans k3)
    cases x with
    | ref a =>
      obtain ⟨ns, hs, kk⟩ := hq
      cases (show u = .ref a from rx3)
      exact ⟨a, _, rfl, hs.sq rg3, fun p hp => ⟨.ref p, _, ((k1.trans k2).trans k3).trans (Keep.new hp), rfl, rg3.newL hp ((RVs.ints ns).cut l r), kk p (rg3.free hp)⟩⟩
    | _ => exact hq.elim⟩⟩⟩
theorem cutW_map {α : Type} (f : α → W) (xs : List α) (lo hi : Option Int) : cutW (xs.map f) lo hi = ((xs.drop (HT.sIx xs.length 0 lo)).take (HT.sIx xs.length xs.length hi - HT.sIx xs.length 0 lo)).map f := by
  unfold cutW
  rw [List.length_map, ← List.map_drop, ← List.map_take]
/-- len of the script -/
theorem q_lenS {p : Pos} {es : List Expr} (hm : X.mg "len" = none) (h : AQ X (e :: es) ρ G fun ws G1 => ∃ a ns, ws = [.ref a] ∧ Scr (cc X) G1 a ns ∧ K (.int ns.length) G1) (hg : Gl X "len" := by rfl)
    (he : starEach (e :: es) X.env = (false, eval e X.env) :: starEach es X.env := by rfl) (hpl : (backTo pos (starEach es X.env)).any (·.1) = false := by rfl) : EQ X (.Call (.Name "len" p) (e :: es) [] pos) ρ G K :=
  q_callB (R := fun ws G1 K => ∃ a ns, ws = [.ref a] ∧ Scr (cc X) G1 a ns ∧ K (.int ns.length) G1) call_len (fun ws vs H G K Q r g ⟨a, ns, e, hs, k⟩ q => by
    subst e
    obtain ⟨v, rfl, hv⟩ := rv1 r
    cases (show v = .ref a from hv)
    exact ⟨_, ns.length, rfl, .inl ⟨_, hs.sq g, by rw [List.length_map]⟩, q _ _ (.stay (w := .int _) rfl g k)⟩) hm PySem.boot_len h hg (by decide) (by decide) he hpl
/-- a, b, c = .. -/
theorem s_par3 {i j l : Nat} {x y z : Str} {px py pz pt : Pos} {kt k2 : Nat} {pt2 : Pos} (hN : X.N.Nodup) (h : EQ X a ρ G fun w G1 => EQ X b ρ G1 fun w' G2 => EQ X d ρ G2 fun w3 G3 => A.nx (((ρ.set i (some w)).set j (some w')).set l (some w3)) G3)
    (hw : swappedStores [.Tuple [.Name x px, .Name y py, .Name z pz] kt pt] (.Tuple [a, b, d] k2 pt2) X.env = pure (some [x, y, z]) := by rfl) (hs1 : starEach [d] X.env = (false, eval d X.env) :: starEach [] X.env := by rfl) (hs2 : starEach [b, d] X.env = (false, eval b X.env) :: starEach [d] X.env := by rfl) (hs3 : starEach [a, b, d] X.env = (false, eval a X.env) :: starEach [b, d] X.env := by rfl) (hc : X.calm = true := by rfl) (hi : X.N[i]? = some x := by rfl) (hj : X.N[j]? = some y := by rfl) (hl : X.N[l]? = some z := by rfl) (hij : i ≠ j := by decide) (hil : i ≠ l := by decide) (hjl : j ≠ l := by decide)
    (hx : X.env.scope.names.lookup x = some .local := by rfl) (hy : X.env.scope.names.lookup y = some .local := by rfl) (hz : X.env.scope.names.lookup z = some .local := by rfl)
    (hs : swapsWithSole [.Tuple [.Name x px, .Name y py, .Name z pz] kt pt] (.Tuple [a, b, d] k2 pt2) pos.line X.env = pure false := by rfl) : S1 X (.Assign [.Tuple [.Name x px, .Name y py, .Name z pz] kt pt] (.Tuple [a, b, d] k2 pt2) pos) ρ G A :=
  S1.of (ps_par3 hc hN hi hj hl hij hil hjl hx hy hz (pa_cons pe_E (pa_cons pe_E (pa_cons pe_E pa_nil hs1) hs2) hs3) hw hs) fun σ H rs rg => ⟨ρ, G, _, h, rs, rg, fun u H1 ⟨w, G1, k1, rx, rg1, q⟩ => ⟨ρ, G1, _, q, rs.mono k1, rg1, fun v H2 ⟨w', G2, k2, ry, rg2, q2⟩ => ⟨ρ, G2, _, q2, rs.mono (k1.trans k2), rg2, fun v3 H3 ⟨w3, G3, k3, rz, rg3, q3⟩ =>
    ⟨u, v, v3, rfl, _, G3, (k1.trans k2).trans k3, (((rs.mono ((k1.trans k2).trans k3)).set i (rx.mono (k2.trans k3))).set j (ry.mono k3)).set l rz, rg3, q3⟩⟩⟩⟩
end
/-! ### data told -/
theorem DWs.ints {G : AH} : ∀ ns : List Int, DWs G (ns.map W.int) (ns.map PyData.int)
  | [] => .nil
  | n :: ns => .cons (.int n) (DWs.ints ns)
theorem lay_ints : ∀ ns : List Int, PyData.canLayAll0 (ns.map PyData.int) = true
  | [] => rfl
  | n :: ns => by
    have := lay_ints ns
    show (_ && _) = true
    rw [this]; rfl
theorem dep_ints : ∀ ns : List Int, PyData.depthAll (ns.map PyData.int) ≤ 0
  | [] => Nat.le_refl _
  | n :: ns => by
    have := dep_ints ns
    show max _ _ ≤ 0
    exact Nat.max_le.mpr ⟨Nat.le_refl _, this⟩
theorem eqv_ints : ∀ ns ms : List Int, PyData.eqvAll (ns.map PyData.int) (ms.map PyData.int) = decide (ns = ms)
  | [], [] => rfl
  | n :: ns, m :: ms => by
    show (PyData.eqv (.int n) (.int m) && PyData.eqvAll (ns.map PyData.int) (ms.map PyData.int)) = _
    rw [eqv_ints ns ms]
    show ((n == m) && _) = _
    by_cases e : n = m
    · subst e; simp
    · simp [e]
  | [], _ :: _ => rfl
  | _ :: _, [] => rfl
theorem shaped_list {ds : List PyData} (h : PyData.canLayAll0 ds = true) (d : PyData.depthAll ds ≤ 60) : SeqAt.shaped (.list ds) = true := by
  unfold SeqAt.shaped
  rw [show (PyData.list ds).canLay0 = true from h, Bool.true_and]
  refine decide_eq_true ?_
  show PyData.depthAll ds + 1 ≤ 64
  omega
theorem shaped_tuple {ds : List PyData} (h : PyData.canLayAll0 ds = true) (d : PyData.depthAll ds ≤ 60) : SeqAt.shaped (.tuple ds) = true := by
  unfold SeqAt.shaped
  rw [show (PyData.tuple ds).canLay0 = true from h, Bool.true_and]
  refine decide_eq_true ?_
  show PyData.depthAll ds + 1 ≤ 64
  omega
theorem shaped_ints (ns : List Int) : SeqAt.shaped (.list (ns.map PyData.int)) = true := shaped_list (lay_ints ns) (Nat.le_trans (dep_ints ns) (by decide))
/-- lists of whole numbers compared -/
theorem fEq_ints {G : AH} {K : W → AH → Prop} {a b : Addr} {ns ms : List Int} {neg : Bool} (ha : G a = some (.lst (ns.map W.int))) (hb : G b = some (.lst (ms.map W.int))) (k : K (.bl (if neg then !decide (ns = ms) else decide (ns = ms))) G) : fEqB neg (.ref a) (.ref b) G K :=
  ⟨.list (ns.map PyData.int), .list (ms.map PyData.int), .lst ha (DWs.ints ns), .lst hb (DWs.ints ms), shaped_ints ns, shaped_ints ms, by
    show K (.bl (if neg = true then !PyData.eqvAll (ns.map PyData.int) (ms.map PyData.int) else PyData.eqvAll (ns.map PyData.int) (ms.map PyData.int))) G
    rw [eqv_ints]; exact k⟩
/-- a whole number in a list of them -/
theorem fIn_ints {G : AH} {K : W → AH → Prop} {a : Addr} {ns : List Int} {i : Int} {neg : Bool} (ha : G a = some (.lst (ns.map W.int))) (k : K (.bl (if neg then !decide (i ∈ ns) else decide (i ∈ ns))) G) : fInD neg (.int i) (.ref a) G K := by
  refine ⟨.int i, ns.map PyData.int, .int i, .lst ha (DWs.ints ns), rfl, shaped_ints ns, ?_⟩
  have : ((ns.map PyData.int).any fun z => PyData.eqv z (.int i)) = decide (i ∈ ns) := by
    rw [List.any_map]
    clear ha k
    induction ns with
    | nil => rfl
    | cons n ns ih =>
      rw [List.any_cons, ih]
      show ((n == i) || _) = _
      by_cases e : n = i
      · subst e; simp
      · have e' : ¬ i = n := fun z => e z.symm
        simp [e, e']
  rw [this]; exact k
end AL
namespace AL
open PySem PySem.Spec L2
open PyProof.Rows hiding St
/-! ### exceptions -/
/-- what a raise may ask -/
structure Thr (X : Cx) (KE : XKA) : Prop where
  ex : ∃ Wx : WX, Takes X Wx ∧ ∀ u o σ H G, RG (cc X) H G → KE u o G → Wx u o σ H
theorem takes_keep {X : Cx} {W : WX} (t : Takes X W) : Takes X fun c d σ H => Keep X.H_0 H → W c d σ H := fun u s' ⟨a, B, sI, pins, σ, H, cls, d, e, I, nb, up, sky, na, os, ag, w⟩ =>
  t u s' ⟨a, B, sI, pins, σ, H, cls, d, e, I, nb, up, sky, na, os, ag, w ⟨I.base.tups, I.base.frzs⟩⟩
theorem fnA_ofX {P : Program} {w : World} {K : PySem.W.Frag} {mg : Str → Option Value} {base : Heap} {x qual : Str} {st : Stmt} {f : Addr} {fd : FuncData} {N ps : List Str} {k : Nat} {sp : ASp} (F : Fun K x qual st f fd) (S : FnScope N ps (defScope st))
    (len : ∀ ws G Kc KE, sp ws G Kc KE → ws.length = ps.length)
    (body : ∀ (cdv : Value) (A : Around) (outer : List Env) (s : Shared) (H : Hp) (E : XK) (ws : List W) (G : AH) (Kc : W → AH → Prop) (KE : XKA), Room k (A.deeper (envOfC qual (defScope st) s.heap.objs.size f cdv)) → sp ws G Kc KE →
      Thr (cxOf (L2.CX P w) P w K mg base N qual (defScope st) f cdv A outer s H E) (fun u o G' => ∃ G'', Sub G'' G' ∧ KE u o G'') →
      SQ (cxOf (L2.CX P w) P w K mg base N qual (defScope st) f cdv A outer s H E) (defBody st) (startW N ws) G { nx := fun _ G' => ∃ G'', Sub G'' G' ∧ Kc .non G'', rt := fun v G' => ∃ G'', Sub G'' G' ∧ Kc v G'' }) :
    FnOk P w K mg base (L2.CX P w) (k + 1) f fd ps (low ⟨P, w, K⟩ sp) := by
  refine F.okX S (fun vs H Q E ⟨ws, G, Kc, KE, r, g, h, _, _⟩ => by rw [← r.length]; exact len ws G Kc KE h) fun cdv A outer s H vs Q E hr ⟨ws, G, Kc, KE, r, g, h, q, qe⟩ => ?_
  refine ⟨_, pss_S, startW N ws, G, _, body cdv A outer s H E ws G Kc KE hr h ⟨_, takes_keep (takes_of rfl rfl rfl rfl), fun u o σ H' G' g' ⟨G'', s1, ke⟩ kp => qe u o H' ⟨G'', kp, g'.sub s1, ke⟩⟩, RS.start r, g, ?_⟩
  exact ⟨fun σ' H' ⟨ρ', G', k1, _, g1, G'', s1, q1⟩ => q _ _ ⟨.non, G'', k1, rfl, g1.sub s1, q1⟩, fun v H' ⟨w, G', k1, r1, g1, G'', s1, q1⟩ => q v H' ⟨w, G'', k1, r1, g1.sub s1, q1⟩, fun _ _ ⟨_, _, _, _, _, z⟩ => z, fun _ _ ⟨_, _, _, _, _, z⟩ => z⟩
/-- a class of the text that stands on ValueError -/
structure ExcT (K : PySem.W.Frag) (mg : Str → Option Value) (x : Str) (C : Addr) : Prop where
  q : PySem.W.excIn K C [.type "ValueError", .type "Exception", .type "BaseException", .type "object"] "ValueError.__new__" = true
  gC : mg x = some (.ref C)
  kC : PySem.W.keepIn K (.ref C) = true
  eC : PySem.W.subIn K (.ref C) (.type "BaseException") = some true
  tC : PySem.W.typeIn K (.ref C) = some (.type "type")
  ex : PySem.W.exmOne K (.ref C) (.ref C) = some true
section
variable {X : Cx} {e : Expr} {es : List Expr} {p p2 pos pos' cpos spos np : Pos} {ρ : AS} {G : AH} {K : W → AH → Prop} {A : AEnds} {KE : XKA} {x m y fn : Str} {C : Addr} {j i k : Nat} {f : Addr} {fd : FuncData} {ps : List Str} {sp : ASp}
theorem s_raise (th : Thr X KE) (T : ExcT X.K X.mg x C) (h : KE (.ref C) none G) (hc : X.calm = true := by rfl) (hg : Gl X x := by rfl) (hdb : (x == ("__debug__" : Str)) = false := by decide) : S1 X (.Raise (some (.Call (.Name x p) [.Constant (.str m) j p2] [] pos)) none pos') ρ G A := by
  obtain ⟨Wx, tk, hk⟩ := th.ex
  exact S1.of (ps_raise hc tk (L2.pmk_own PySem.F.excBase_ValueError T.q T.gC T.kC (raises_own T.eC T.tC) hg hdb)) fun σ H rs rg => hk _ _ _ _ _ rg h
/-- try: y = fn(..) except x: suite -/
theorem s_tryCall {b₀ : Stmt} {suite : List Stmt} {c : Value} (F : FnOk X.prog X.w X.K X.mg X.base (L2.CX X.prog X.w) k f fd ps (low ⟨X.prog, X.w, X.K⟩ sp)) (hr : Room k X.A) (hm : X.mg fn = some (.ref f)) (hk : PySem.W.keepIn X.K (.ref f) = true) (hb : Binds X.K fd ps []) (hcl : Names X x c) (hN : X.N.Nodup)
    (h : ∀ (pn : List (Addr × Obj)) (xe : Value → Shared → Prop), AQ (X.tr pn xe) (e :: es) ρ G fun ws G1 => sp ws G1 (fun w G2 => A.nx (ρ.set i (some w)) G2) fun u o G2 => PySem.W.exmOne X.K u c = some true ∧ ∀ (a : Addr) (oe : Obj) (pn : List (Addr × Obj)), SQ (X.suite a ((a, oe) :: pn)) (b₀ :: suite) ρ G2 A)
    (hs : X.stack = X.env :: X.outer := by rfl) (hf : X.env.frame = some X.env.locals := by rfl) (hy : X.N[i]? = some y := by rfl) (hx : Loc X.env.scope y := by first | exact .inl rfl | exact .inr rfl) (hfy : X.fn y = true ∨ X.env.scope.names.lookup y = some .local := by first | exact .inl rfl | exact .inr rfl) (hg : Gl X fn := by rfl)
    (hsw : swapsWith (.Call (.Name fn p) (e :: es) [] cpos) (some (.Name y p2)) spos.line X.env = pure false := by rfl) (hdb : (fn == ("__debug__" : Str)) = false := by decide) (he : starEach (e :: es) X.env = (false, eval e X.env) :: starEach es X.env := by rfl) (hpl : (backTo cpos (starEach es X.env)).any (·.1) = false := by rfl) :
    S1 X (.Try [.Assign [.Name y p2] (.Call (.Name fn p) (e :: es) [] cpos) spos] [.ExceptHandler (some (.Name x np)) none (b₀ :: suite) pos'] [] [] pos) ρ G A := by
  refine S1.of (ps_try_only (x := x) (c := c) (Wout := fun _ _ _ _ => False) (tb := fun Wx => tAsg (tCallS (low ⟨X.prog, X.w, X.K⟩ sp) (WE Wx) fun σ H Q => ∃ ρ G Ka, (∀ (pn : List (Addr × Obj)) (xe : Value → Shared → Prop), AQ (X.tr pn xe) (e :: es) ρ G Ka) ∧ RS H σ ρ ∧ RG (cc X) H G ∧ ∀ vs H', CA (cc X) H (e :: es).length Ka vs H' → Q vs H') (gName i))
    (ts := fun _ _ _ => fun D σ H => ∃ ρ G A, (∀ (a : Addr) (oe : Obj) (pn : List (Addr × Obj)), SQ (X.suite a ((a, oe) :: pn)) (b₀ :: suite) ρ G A) ∧ RS H σ ρ ∧ RG (cc X) H G ∧ DImp (CD (cc X) H A) D) hs hf hcl takes0 (fun Wx pn xe tk _ => ?_) fun a oe cls d pn _ _ => ?_) fun σ H rs rg => ?_
  · refine pss_one (ps_set hN hy hx (pe_callS (X := X.tr pn xe) F hr hg hm hk hb (fun σ => passAt tk σ) ⟨fun pos pins s σ H Q I ⟨ρ, G, Ka, h, rs, rg, q⟩ => ?_⟩ hdb he hpl) hsw hfy)
    exact thn ((h pn xe).run pos pins s σ H I rs rg) fun u s' ⟨v, H', I', r, q'⟩ => ⟨v, H', I', r, q v H' q'⟩
  · exact ⟨fun pins s σ H D I ⟨ρ, G, A, h, rs, rg, k⟩ => thn ((h a oe pn).run pins s σ H I rs rg) fun u s' q => SP.imp (D := CD (cc X) H A) q k⟩
  · refine ⟨ρ, G, _, h, rs, rg, fun vs H1 ⟨ws, G1, k1, r1, rg1, _, q⟩ => ⟨ws, G1, _, _, r1, rg1, q, fun v H2 ⟨w, G2, k2, r2, rg2, q2⟩ => ?_, fun u o H2 ⟨G2, k2, rg2, hm1, q2⟩ => ?_⟩⟩
    · exact ⟨_, G2, k1.trans k2, (rs.mono (k1.trans k2)).set i r2, rg2, q2⟩
    · exact ⟨true, hm1, fun _ a _ => ⟨ρ, G2, A, q2, rs.mono (k1.trans k2), rg2, CD.pre (k1.trans k2)⟩, fun z => Bool.noConfusion z⟩
end
end AL
namespace AL
open PySem PySem.Spec L2
open PyProof.Rows hiding St

/-! ### dicts whose keys are whole numbers and texts -/
def keyW : W → Option Key
  | .int i => some (.inl i)
  | .str x => some (.inr x)
  | _ => none
def wK : Key → W
  | .inl i => .int i
  | .inr x => .str x
theorem keyW_wK (k : Key) : keyW (wK k) = some k := by cases k <;> rfl
theorem wK_of {w : W} {k : Key} (h : keyW w = some k) : w = wK k := by
  cases w with
  | int i => cases h; rfl
  | str i => cases h; rfl
  | _ => cases h
theorem rv_key {H : Hp} {w : W} {v : V} {k : Key} (h : keyW w = some k) (r : RV H w v) : v = kV k := by
  cases w with
  | int i => cases h; exact r
  | str i => cases h; exact r
  | _ => cases h
theorem rv_wK {H : Hp} (k : Key) : RV H (wK k) (kV k) := by cases k <;> rfl
/-- a dict with such keys: tracked, or locked -/
def DkA (G : AH) (w : W) (kws : List (Key × W)) : Prop := match w with
  | .ref a => G a = some (.dK kws) ∨ G a = some (.zK kws)
  | _ => False
theorem DkA.rd {c : Ct} {H : Hp} {G : AH} {w : W} {kws : List (Key × W)} {u : V} (g : RG c H G) (h : DkA G w kws) (r : RV H w u) : ∃ a kvs, u = .ref a ∧ Rd H a (.dK kvs) ∧ KWV H kws kvs := by
  cases w with
  | ref a =>
    rcases h with h | h
    · obtain ⟨kvs, h1, h2⟩ := g a _ h; exact ⟨a, kvs, r, .inl h1, h2⟩
    · obtain ⟨o, kvs, h1, h2⟩ := g a _ h; exact ⟨a, kvs, r, .inr ⟨o, h1⟩, h2⟩
  | _ => exact h.elim
theorem KWV.val {κ : Type} [DecidableEq κ] {H : Hp} {kws : List (κ × W)} {kvs : List (κ × V)} (r : KWV H kws kvs) (k : κ) : match lk kws k with
    | some w => ∃ v, valV kvs k = some v ∧ RV H w v
    | none => valV kvs k = none := by
  unfold KWV at r
  induction r with
  | nil => rfl
  | @cons p q ps qs h t ih =>
    rw [lk_cons]
    by_cases e : p.1 = k
    · rw [if_pos e, valV_pos (by rw [← h.1]; exact e)]
      exact ⟨_, rfl, h.2⟩
    · rw [if_neg e, valV_neg (by rw [← h.1]; exact e)]
      exact ih
theorem KWV.isSome {κ : Type} [DecidableEq κ] {H : Hp} {kws : List (κ × W)} {kvs : List (κ × V)} (r : KWV H kws kvs) (k : κ) : (valV kvs k).isSome = (lk kws k).isSome := by
  have := r.val k
  cases e : lk kws k with
  | none => rw [e] at this; rw [show valV kvs k = none from this]; rfl
  | some w => rw [e] at this; obtain ⟨v, h, _⟩ := this; rw [h]; rfl
theorem any_isSome {κ : Type} [DecidableEq κ] (kvs : List (κ × V)) (k : κ) : (kvs.any fun kv => decide (kv.1 = k)) = (valV kvs k).isSome := by
  unfold valV
  induction kvs with
  | nil => rfl
  | cons p r ih =>
    rw [List.any_cons, List.find?_cons]
    by_cases e : p.1 = k
    · simp [e]
    · simp only [decide_eq_false e, Bool.false_or]; exact ih
theorem KWV.put {κ : Type} [DecidableEq κ] {H : Hp} {kws : List (κ × W)} {kvs : List (κ × V)} (r : KWV H kws kvs) (k : κ) {w : W} {v : V} (h : RV H w v) : KWV H (pk kws k w) (putK kvs k v) := by
  unfold pk putK
  rw [any_isSome, r.isSome k]
  split
  · unfold KWV at r ⊢
    rename_i z
    clear z
    induction r with
    | nil => exact .nil
    | @cons p q ps qs hh t ih =>
      rw [List.map_cons, List.map_cons]
      refine .cons ?_ ih
      by_cases e : p.1 = k
      · rw [if_pos e, if_pos (by rw [← hh.1]; exact e)]; exact ⟨hh.1, h⟩
      · rw [if_neg e, if_neg (by rw [← hh.1]; exact e)]; exact hh
  · unfold KWV at r ⊢
    rename_i z
    clear z
    induction r with
    | nil => exact .cons ⟨rfl, h⟩ .nil
    | cons hh t ih => exact .cons hh ih
theorem KWV.len {κ : Type} {H : Hp} {kws : List (κ × W)} {kvs : List (κ × V)} (r : KWV H kws kvs) : kws.length = kvs.length := Paired.length r
theorem KWV.get {κ : Type} {H : Hp} {kws : List (κ × W)} {kvs : List (κ × V)} (r : KWV H kws kvs) {i : Nat} {k : κ} {v : V} (h : kvs[i]? = some (k, v)) : ∃ w, kws[i]? = some (k, w) ∧ RV H w v := by
  unfold KWV at r
  induction r generalizing i with
  | nil => simp at h
  | @cons p q ps qs hh t ih =>
    cases i with
    | zero => simp at h; subst h; exact ⟨p.2, by rw [show p = (p.1, p.2) from rfl, hh.1]; rfl, hh.2⟩
    | succ i => obtain ⟨w, h1, h2⟩ := ih (by simpa using h); exact ⟨w, by simpa using h1, h2⟩
theorem DGet.of {H : Hp} {a : Addr} {kvs : List (Key × V)} (k : Key) (h : Rd H a (.dK kvs)) : DGet H a (kV k) (valV kvs k) := .inl ⟨kvs, k, h, rfl, rfl⟩
theorem IsD.of {H : Hp} {a : Addr} {kvs : List (Key × V)} (h : Rd H a (.dK kvs)) : IsD H a := .inl ⟨kvs, h⟩
theorem RG.mutD {c : Ct} {H : Hp} {G : AH} {a : Addr} {kvs kvs' : List (Key × V)} {kws' : List (Key × W)} (g : RG c H G) (h : H a = some (.dK kvs)) (r : KWV H kws' kvs') : Keep H (upd H a (.dK kvs')) ∧ RG c (upd H a (.dK kvs')) (aup G a (.dK kws')) := by
  have k : Keep H (upd H a (.dK kvs')) := Keep.mut h trivial
  exact ⟨k, g.put k (show RO c (upd H a (.dK kvs')) a (.dK kws') from ⟨kvs', upd_same, r.mono k⟩)⟩
section
variable {X : Cx} {a b o i e f : Expr} {pos apos cpos : Pos} {ρ : AS} {G : AH} {K : W → AH → Prop} {KB : Bool → AH → Prop}
theorem q_dnew (k : ∀ p, G p = none → K (.ref p) (aup G p (.dK []))) : EQ X (.Dict [] [] pos) ρ G K :=
  EQ.of pe_dnewK fun σ H rs rg => fun p hp => ⟨.ref p, _, Keep.new hp, rfl, rg.new hp (show RO _ _ p (.dK []) from ⟨[], upd_same, .nil⟩), k p (rg.free hp)⟩
/-- d[k] -/
def fDget : WR := fun x y G K => ∃ kws k w, DkA G x kws ∧ keyW y = some k ∧ lk kws k = some w ∧ K w G
theorem q_dget (hu : X.A.units + 64 < cLine) (h : EQ X o ρ G fun x G1 => EQ X i ρ G1 fun y G2 => fDget x y G2 K) (hs : NoSl i := by exact fun _ _ => rfl) : EQ X (.Subscript o i pos) ρ G K :=
  EQ.of (pe_dget (by omega) pe_E pe_E hs) fun σ H rs rg => ⟨ρ, G, _, h, rs, rg, fun u H1 ⟨x, G1, k1, rx, rg1, hb⟩ => ⟨ρ, G1, _, hb, rs.mono k1, rg1, fun v H2 ⟨y, G2, k2, ry, rg2, kws, k, w, hd, hk, hw, q⟩ => by
    obtain ⟨a, kvs, e, hr, kv⟩ := hd.rd rg2 (rx.mono k2)
    have := kv.val k
    rw [hw] at this
    obtain ⟨v', h1, h2⟩ := this
    refine ⟨a, v', e, ?_, (CW.stay h2 rg2 q).pre (k1.trans k2)⟩
    rw [rv_key hk ry, ← h1]
    exact DGet.of k hr⟩⟩
def fDinK (neg : Bool) : WR := fun x y G K => ∃ kws k, DkA G y kws ∧ keyW x = some k ∧ K (.bl (if neg then !(lk kws k).isSome else (lk kws k).isSome)) G
theorem q_din (hu : X.A.units + 64 < cLine) (h : EQ X a ρ G fun x G1 => EQ X b ρ G1 fun y G2 => fDinK false x y G2 K) (hm : behindInMarks .In b = false := by rfl) : EQ X (.Compare a [.In] [b] pos) ρ G K :=
  EQ.of (pe_cmp (pc_din (by omega) pe_E pe_E) hm) fun σ H rs rg => ⟨ρ, G, _, h, rs, rg, fun u H1 ⟨x, G1, k1, rx, rg1, hb⟩ => ⟨ρ, G1, _, hb, rs.mono k1, rg1, fun v H2 ⟨y, G2, k2, ry, rg2, kws, k, hd, hk, q⟩ => by
    obtain ⟨a, kvs, e, hr, kv⟩ := hd.rd rg2 ry
    refine ⟨a, _, e, by rw [rv_key hk rx]; exact DGet.of k hr, ?_⟩
    rw [kv.isSome k]
    exact (CW.stay (w := .bl _) rfl rg2 q).pre (k1.trans k2)⟩⟩
theorem q_dnin (hu : X.A.units + 64 < cLine) (h : EQ X a ρ G fun x G1 => EQ X b ρ G1 fun y G2 => fDinK true x y G2 K) (hm : behindInMarks .NotIn b = false := by rfl) : EQ X (.Compare a [.NotIn] [b] pos) ρ G K :=
  EQ.of (pe_cmp (pc_dnotin (by omega) pe_E pe_E) hm) fun σ H rs rg => ⟨ρ, G, _, h, rs, rg, fun u H1 ⟨x, G1, k1, rx, rg1, hb⟩ => ⟨ρ, G1, _, hb, rs.mono k1, rg1, fun v H2 ⟨y, G2, k2, ry, rg2, kws, k, hd, hk, q⟩ => by
    obtain ⟨a, kvs, e, hr, kv⟩ := hd.rd rg2 ry
    refine ⟨a, _, e, by rw [rv_key hk rx]; exact DGet.of k hr, ?_⟩
    rw [kv.isSome k]
    exact (CW.stay (w := .bl _) rfl rg2 q).pre (k1.trans k2)⟩⟩
theorem tst_CB {c : Ct} {H H' : Hp} {K : Bool → AH → Prop} {z : V} (h : CW c H (tst K) z H') : ∃ k, z = .bl k ∧ CB c H K k H' := tst_of h
theorem b_din (hu : X.A.units + 64 < cLine) (h : EQ X a ρ G fun x G1 => EQ X b ρ G1 fun y G2 => fDinK false x y G2 (tst KB)) (hm : behindInMarks .In b = false := by rfl) : BQ X (.Compare a [.In] [b] pos) ρ G KB :=
  BQ.of (pt_cmp (pc_din (by omega) pe_E pe_E) hm) fun σ H rs rg => ⟨ρ, G, _, h, rs, rg, fun u H1 ⟨x, G1, k1, rx, rg1, hb⟩ => ⟨ρ, G1, _, hb, rs.mono k1, rg1, fun v H2 ⟨y, G2, k2, ry, rg2, kws, k, hd, hk, q⟩ => by
    obtain ⟨a, kvs, e, hr, kv⟩ := hd.rd rg2 ry
    refine ⟨a, _, e, by rw [rv_key hk rx]; exact DGet.of k hr, ?_⟩
    rw [kv.isSome k]
    exact ⟨_, rfl, _, k1.trans k2, rg2, q⟩⟩⟩
theorem b_dnin (hu : X.A.units + 64 < cLine) (h : EQ X a ρ G fun x G1 => EQ X b ρ G1 fun y G2 => fDinK true x y G2 (tst KB)) (hm : behindInMarks .NotIn b = false := by rfl) : BQ X (.Compare a [.NotIn] [b] pos) ρ G KB :=
  BQ.of (pt_cmp (pc_dnotin (by omega) pe_E pe_E) hm) fun σ H rs rg => ⟨ρ, G, _, h, rs, rg, fun u H1 ⟨x, G1, k1, rx, rg1, hb⟩ => ⟨ρ, G1, _, hb, rs.mono k1, rg1, fun v H2 ⟨y, G2, k2, ry, rg2, kws, k, hd, hk, q⟩ => by
    obtain ⟨a, kvs, e, hr, kv⟩ := hd.rd rg2 ry
    refine ⟨a, _, e, by rw [rv_key hk rx]; exact DGet.of k hr, ?_⟩
    rw [kv.isSome k]
    exact ⟨_, rfl, _, k1.trans k2, rg2, q⟩⟩⟩
/-- d.get(k), d.get(k, x) -/
theorem q_dget1 (hu : X.A.units + 64 < cLine) (h : EQ X o ρ G fun x G1 => ∃ kws, DkA G1 x kws ∧ EQ X e ρ G1 fun y G2 => ∃ kws k, DkA G2 x kws ∧ keyW y = some k ∧ K ((lk kws k).getD .non) G2) (m : M1 X o "get" apos e cpos := by exact ⟨rfl, rfl, rfl, rfl⟩) : EQ X (.Call (.Attribute o "get" apos) [e] [] cpos) ρ G K :=
  EQ.of (pe_dget1 (by omega) pe_E pe_E m) fun σ H rs rg => ⟨ρ, G, _, h, rs, rg, fun u H1 ⟨x, G1, k1, rx, rg1, kws, hd, hb⟩ => by
    obtain ⟨a, kvs, e, hr, kv⟩ := hd.rd rg1 rx
    subst e
    refine ⟨a, rfl, IsD.of hr, ρ, G1, _, hb, rs.mono k1, rg1, fun v H2 ⟨y, G2, k2, ry, rg2, kws, k, hd, hk, q⟩ => ?_⟩
    obtain ⟨a2, kvs, e, hr, kv⟩ := hd.rd rg2 (rx.mono k2)
    cases e
    refine ⟨_, by rw [rv_key hk ry]; exact DGet.of k hr, ?_⟩
    have := kv.val k
    cases e : lk kws k with
    | none =>
      rw [e] at this q
      rw [show valV kvs k = none from this]
      exact (CW.stay (w := .non) rfl rg2 q).pre (k1.trans k2)
    | some w =>
      rw [e] at this q
      obtain ⟨v', h1, h2⟩ := this
      rw [h1]
      exact (CW.stay h2 rg2 q).pre (k1.trans k2)⟩
theorem q_dget2 (hu : X.A.units + 64 < cLine) (h : EQ X o ρ G fun x G1 => ∃ kws, DkA G1 x kws ∧ EQ X e ρ G1 fun y G2 => EQ X f ρ G2 fun z G3 => ∃ kws k, DkA G3 x kws ∧ keyW y = some k ∧ K ((lk kws k).getD z) G3) (m : M2 X o "get" apos e f cpos := by exact ⟨rfl, rfl, rfl, rfl⟩) : EQ X (.Call (.Attribute o "get" apos) [e, f] [] cpos) ρ G K :=
  EQ.of (pe_dget2 (by omega) pe_E pe_E pe_E m) fun σ H rs rg => ⟨ρ, G, _, h, rs, rg, fun u H1 ⟨x, G1, k1, rx, rg1, kws, hd, hb⟩ => by
    obtain ⟨a, kvs, e, hr, kv⟩ := hd.rd rg1 rx
    subst e
    refine ⟨a, rfl, IsD.of hr, ρ, G1, _, hb, rs.mono k1, rg1, fun v H2 ⟨y, G2, k2, ry, rg2, hb⟩ => ⟨ρ, G2, _, hb, rs.mono (k1.trans k2), rg2, fun v3 H3 ⟨z, G3, k3, rz, rg3, kws, k, hd, hk, q⟩ => ?_⟩⟩
    obtain ⟨a2, kvs, e, hr, kv⟩ := hd.rd rg3 (rx.mono (k2.trans k3))
    cases e
    refine ⟨_, by rw [rv_key hk (ry.mono k3)]; exact DGet.of k hr, ?_⟩
    have := kv.val k
    cases e : lk kws k with
    | none =>
      rw [e] at this q
      rw [show valV kvs k = none from this]
      exact (CW.stay rz rg3 q).pre ((k1.trans k2).trans k3)
    | some w =>
      rw [e] at this q
      obtain ⟨v', h1, h2⟩ := this
      rw [h1]
      exact (CW.stay h2 rg3 q).pre ((k1.trans k2).trans k3)⟩
/-- d.setdefault(k, x) -/
theorem q_dsetd (h : EQ X o ρ G fun x G1 => ∃ kws, DkA G1 x kws ∧ EQ X e ρ G1 fun y G2 => EQ X f ρ G2 fun z G3 => ∃ a kws k, x = .ref a ∧ G3 a = some (.dK kws) ∧ keyW y = some k ∧ kws.length < sizeLine ∧ (match lk kws k with
      | some w => K w G3
      | none => K z (aup G3 a (.dK (pk kws k z))))) (m : M2 X o "setdefault" apos e f cpos := by exact ⟨rfl, rfl, rfl, rfl⟩) : EQ X (.Call (.Attribute o "setdefault" apos) [e, f] [] cpos) ρ G K :=
  EQ.of (pe_dsetd pe_E pe_E pe_E m) fun σ H rs rg => ⟨ρ, G, _, h, rs, rg, fun u H1 ⟨x, G1, k1, rx, rg1, kws, hd, hb⟩ => by
    obtain ⟨a, kvs, e, hr, kv⟩ := hd.rd rg1 rx
    subst e
    refine ⟨a, rfl, IsD.of hr, ρ, G1, _, hb, rs.mono k1, rg1, fun v H2 ⟨y, G2, k2, ry, rg2, hb⟩ => ⟨ρ, G2, _, hb, rs.mono (k1.trans k2), rg2, fun v3 H3 ⟨z, G3, k3, rz, rg3, a2, kws2, k, e, hd2, hk, hl, q⟩ => ?_⟩⟩
    subst e
    cases (show V.ref a = .ref a2 from rx)
    clear hd hr kv
    obtain ⟨kvs, h1, h2⟩ := rg3 a _ hd2
    have vv := h2.val k
    refine ⟨kvs, k, h1, rv_key hk (ry.mono k3), by rw [← h2.len]; exact hl, fun v hv => ?_, fun hv => ?_⟩
    · cases e : lk kws2 k with
      | none => rw [e] at vv; rw [show valV kvs k = none from vv] at hv; cases hv
      | some w =>
        rw [e] at vv q
        obtain ⟨v', h1', h2'⟩ := vv
        rw [h1'] at hv; cases hv
        exact (CW.stay h2' rg3 q).pre ((k1.trans k2).trans k3)
    · cases e : lk kws2 k with
      | some w => rw [e] at vv; obtain ⟨v', h1', _⟩ := vv; rw [h1'] at hv; cases hv
      | none =>
        rw [e] at q
        obtain ⟨k4, rg4⟩ := rg3.mutD h1 (h2.put k rz)
        exact ⟨z, _, ((k1.trans k2).trans k3).trans k4, rz.mono k4, rg4, q⟩⟩
/-- d[k] = v -/
def fDput : W → W → W → AH → (AH → Prop) → Prop := fun x y w G K => match x with
  | .ref d => ∃ kws k, G d = some (.dK kws) ∧ keyW y = some k ∧ kws.length < sizeLine ∧ K (aup G d (.dK (pk kws k w)))
  | _ => False
theorem sr_dict {c : Ct} : SetR c rSetD fDput := by
  intro o i w u j v H G K Q ro ri rw' g h q
  cases o with
  | ref d =>
    cases (show u = .ref d from ro)
    obtain ⟨kws, k, hd, hk, hl, kk⟩ := h
    obtain ⟨kvs, h1, h2⟩ := g d _ hd
    obtain ⟨k4, rg4⟩ := g.mutD h1 (h2.put k rw')
    exact ⟨d, _, rfl, .inl ⟨kvs, k, h1, rv_key hk ri, by rw [← h2.len]; exact hl, rfl⟩, q _ _ k4 rg4 kk⟩
  | _ => exact h.elim
theorem g_dput {w : W} {KS : AS → AH → Prop} (hu : X.A.units + 64 < cLine) (h : EQ X o ρ G fun x G1 => EQ X i ρ G1 fun y G2 => fDput x y w G2 (KS ρ))
    (ha : ∀ v, assign (.Subscript o i pos) X.env v = (do
      let ov ← holding [v] (eval o X.env)
      let iv ← holding [v, ov] (eval i X.env)
      standAt pos
      holding [v, ov, iv] (setItem ov iv v)
      release [v, ov, iv] []) := by intro _; rfl) : GQ X (.Subscript o i pos) w ρ G KS := g_sub (set_dict (by omega)) sr_dict h ha
/-- a dict that is only read from now on -/
theorem s_lockK {es : List Stmt} {A : AEnds} (d : Addr) {kws : List (Key × W)} (hd : G d = some (.dK kws)) (h : SQ X es ρ (aup G d (.zK kws)) A) : SQ X es ρ G A := ⟨fun pins s σ H I rs rg => by
  obtain ⟨kvs, h1, h2⟩ := rg d _ hd
  obtain ⟨od, I2⟩ := I.lock h1 trivial
  have k : Keep H (upd H d (.frz od (.dK kvs))) := Keep.mut h1 trivial
  exact thn (h.run pins s σ _ I2 (rs.mono k) (rg.put k (show RO _ _ d (.zK kws) from ⟨od, kvs, upd_same, h2.mono k⟩))) fun u s' q => SP.imp (D := CD (cc X) _ A) q (CD.pre k)⟩
theorem s_lockN {es : List Stmt} {A : AEnds} (d : Addr) {kws : List (W × W)} (hd : G d = some (.dN kws)) (h : SQ X es ρ (aup G d (.zN kws)) A) : SQ X es ρ G A := ⟨fun pins s σ H I rs rg => by
  obtain ⟨kvs, h1, h2⟩ := rg d _ hd
  obtain ⟨od, I2⟩ := I.lock h1 trivial
  have k : Keep H (upd H d (.frz od (.ext (rawN X.prog X.w d kvs)))) := Keep.mut h1 trivial
  exact thn (h.run pins s σ _ I2 (rs.mono k) (rg.put k (show RO _ _ d (.zN kws) from ⟨od, kvs, upd_same, Paired.mapP h2 fun _ _ z => ⟨z.1, z.2.1, z.2.2.1, z.2.2.2.1.mono k, z.2.2.2.2.mono k⟩⟩))) fun u s' q => SP.imp (D := CD (cc X) _ A) q (CD.pre k)⟩
/-- the same of an expression's value -/
def lockK (K : W → AH → Prop) : W → AH → Prop := fun v G => match v with
  | .ref d => ∃ kws, G d = some (.dK kws) ∧ K v (aup G d (.zK kws))
  | _ => False
theorem q_lockK (h : EQ X e ρ G (lockK K)) : EQ X e ρ G K := ⟨fun pins s σ H I rs rg => thn (h.run pins s σ H I rs rg) fun u s' ⟨v, H', I', r, w, G', k, rw', rg', q⟩ => by
  cases w with
  | ref p =>
    obtain ⟨kws, hp, q⟩ := q
    obtain ⟨kvs, h1, h2⟩ := rg' p _ hp
    obtain ⟨od, I2⟩ := I'.lock h1 trivial
    have k2 : Keep H' (upd H' p (.frz od (.dK kvs))) := Keep.mut h1 trivial
    exact ⟨v, _, I2, r, .ref p, _, k.trans k2, rw', rg'.put k2 (show RO _ _ p (.zK kws) from ⟨od, kvs, upd_same, h2.mono k2⟩), q⟩
  | _ => exact q.elim⟩
section
variable {tg iter : Expr} {R : IK} {elts : List Expr} {kk : Nat} {tpos : Pos}
theorem i_keys (h : EQ X iter ρ G fun w G1 => ∃ d kws, w = .ref d ∧ G1 d = some (.zK kws) ∧ R (kws.map fun kv => wK kv.1) (fun G => G d = some (.zK kws)) G1) : IQ X tg iter ρ G R :=
  IQ.of (pi_keys pe_E) fun σ H rs rg => ⟨ρ, G, _, h, rs, rg, fun u H1 ⟨w, G1, k1, rx, rg1, d, kws, e, hd, q⟩ => by
    subst e
    obtain ⟨o, kvs, h1, h2⟩ := rg1 d _ hd
    refine ⟨d, o, rx, .inl ⟨kvs, h1, _, _, G1, k1, rg1, ⟨fun i H2 G2 k2 rg2 o2 hi => ?_, fun i H2 G2 v H3 k2 rg2 o2 hi y => ?_, fun i H2 G2 k2 rg2 o2 hi => ?_⟩, q⟩⟩
    · rw [List.length_map, h2.len] at hi
      exact ⟨k2.f _ _ _ h1, hi⟩
    · obtain ⟨e, k, v', hk, e2⟩ := y
      subst e e2
      obtain ⟨w, hw, _⟩ := h2.get hk
      exact ⟨Keep.refl, rg2, wK k, by rw [List.getElem?_map, hw]; rfl, rv_wK k⟩
    · rw [List.length_map, h2.len] at hi
      exact ⟨k2.f _ _ _ h1, hi⟩⟩
theorem i_values (h : EQ X e ρ G fun w G1 => ∃ d kws, w = .ref d ∧ G1 d = some (.zK kws) ∧ R (kws.map (·.2)) (fun G => G d = some (.zK kws)) G1) (hbase : attributeBase e "values" X.env (eval e X.env) = eval e X.env := by rfl) (hline : (apos.endLine == cpos.line) = true := by rfl) : IQ X tg (.Call (.Attribute e "values" apos) [] [] cpos) ρ G R :=
  IQ.of (pi_values pe_E hbase hline) fun σ H rs rg => ⟨ρ, G, _, h, rs, rg, fun u H1 ⟨w, G1, k1, rx, rg1, d, kws, e, hd, q⟩ => by
    subst e
    obtain ⟨o, kvs, h1, h2⟩ := rg1 d _ hd
    refine ⟨d, o, kvs, rx, h1, _, _, G1, k1, rg1, ⟨fun i H2 G2 k2 rg2 o2 hi => ?_, fun i H2 G2 v H3 k2 rg2 o2 hi y => ?_, fun i H2 G2 k2 rg2 o2 hi => ?_⟩, q⟩
    · rw [List.length_map, h2.len] at hi
      exact ⟨k2.f _ _ _ h1, hi⟩
    · obtain ⟨e, k, hk⟩ := y
      subst e
      obtain ⟨w, hw, r⟩ := h2.get hk
      exact ⟨Keep.refl, rg2, w, by rw [List.getElem?_map, hw]; rfl, r.mono k2⟩
    · rw [List.length_map, h2.len] at hi
      exact ⟨k2.f _ _ _ h1, hi⟩⟩
theorem i_items (h : EQ X e ρ G fun w G1 => ∃ d kws, w = .ref d ∧ G1 d = some (.zK kws) ∧ R (kws.map fun kv => .tup [wK kv.1, kv.2]) (fun G => G d = some (.zK kws)) G1) (hbase : attributeBase e "items" X.env (eval e X.env) = eval e X.env := by rfl) (hline : (apos.endLine == cpos.line) = true := by rfl) : IQ X (.Tuple elts kk tpos) (.Call (.Attribute e "items" apos) [] [] cpos) ρ G R :=
  IQ.of (pi_items pe_E hbase hline) fun σ H rs rg => ⟨ρ, G, _, h, rs, rg, fun u H1 ⟨w, G1, k1, rx, rg1, d, kws, e, hd, q⟩ => by
    subst e
    obtain ⟨o, kvs, h1, h2⟩ := rg1 d _ hd
    refine ⟨d, o, kvs, rx, h1, _, _, G1, k1, rg1, ⟨fun i H2 G2 k2 rg2 o2 hi => ?_, fun i H2 G2 v H3 k2 rg2 o2 hi y => ?_, fun i H2 G2 k2 rg2 o2 hi => ?_⟩, q⟩
    · rw [List.length_map, h2.len] at hi
      exact ⟨k2.f _ _ _ h1, hi⟩
    · obtain ⟨T, k, v', hk, e2, hT, e3⟩ := y
      subst e2 e3
      obtain ⟨w, hw, r⟩ := h2.get hk
      exact ⟨Keep.new hT, rg2.tup hT, .tup [wK k, w], by rw [List.getElem?_map, hw]; rfl, T, _, rfl, upd_same, .cons (rv_wK k) (.cons ((r.mono k2).mono (Keep.new hT)) RVs.nil)⟩
    · rw [List.length_map, h2.len] at hi
      exact ⟨k2.f _ _ _ h1, hi⟩⟩
end
end
end AL
namespace AL
open PySem PySem.Spec L2
open PyProof.Rows hiding St

section
variable {X : Cx} {a b o i e f : Expr} {es : List Expr} {p pos apos cpos : Pos} {ρ : AS} {G : AH} {K : W → AH → Prop} {KB : Bool → AH → Prop}
/-! ### names of types -/
theorem q_ty {x : Str} {n : String} (hm : X.mg x = none) (hv : bootBuiltins x = some (.type n)) (k : K (.ty n) G) (hg : Gl X x := by rfl) (hn : x ≠ "__name__" := by decide) (hd : (x == ("__debug__" : Str)) = false := by decide) : EQ X (.Name x pos) ρ G K :=
  EQ.of (pe_bltn (v := .ty n) hg hm hv rfl hn hd) fun σ H rs rg => CW.stay (w := .ty n) rfl rg k
/-- a thing of the module by its address -/
theorem q_gref {x : Str} {c : Addr} (hm : X.mg x = some (.ref c)) (k : K (.ref c) G) (hg : Gl X x := by rfl) (hd : (x == ("__debug__" : Str)) = false := by decide) : EQ X (.Name x pos) ρ G K :=
  EQ.of (pe_glob (v := .ref c) hg hm rfl hd) fun σ H rs rg => CW.stay (w := .ref c) rfl rg k
/-! ### isinstance -/
def tyO : Option AO → Option String
  | some (.lst _) => some "list"
  | some (.dK _) => some "dict"
  | some (.zK _) => some "dict"
  | _ => none
/-- the type of a value -/
def tyW (G : AH) : W → Option String
  | .non => some "NoneType"
  | .bl _ => some "bool"
  | .int _ => some "int"
  | .str _ => some "str"
  | .tup _ => some "tuple"
  | .lst _ => some "list"
  | .ty _ => none
  | .ref a => tyO (G a)
theorem tyX_of {c : Ct} {H : Hp} {G : AH} {w : W} {u : V} {n : String} (g : RG c H G) (r : RV H w u) (h : tyW G w = some n) : TyX c.K H u (.type n) := by
  cases w with
  | non => cases h; cases (show u = .non from r); exact .base .non
  | bl b => cases h; cases (show u = .bl b from r); exact .base (.bl b)
  | int b => cases h; cases (show u = .int b from r); exact .base (.int b)
  | str b => cases h; cases (show u = .str b from r); exact .base (.str b)
  | ty b => cases h
  | tup ws => cases h; obtain ⟨a, vs, e, ha, _⟩ := r; subst e; exact .base (.tup ha)
  | lst ws => cases h; obtain ⟨a, vs, e, ⟨o, ha⟩, _⟩ := r; subst e; exact .base (.frz ha)
  | ref a =>
    cases (show u = .ref a from r)
    have h : tyO (G a) = some n := h
    unfold tyO at h
    split at h
    · rename_i ha; cases h; obtain ⟨vs, h1, _⟩ := g a _ ha; exact .base (.lst h1)
    · rename_i ha; cases h; obtain ⟨vs, h1, _⟩ := g a _ ha; exact .base (.dK h1)
    · rename_i ha; cases h; obtain ⟨o, vs, h1, _⟩ := g a _ ha; exact .fDict h1
    · cases h
def fIsi (c : Ct) : CRW := fun ws G K => match ws with
  | [x, .ty m] => ∃ n b, tyW G x = some n ∧ PySem.W.kitOne c.K (.type n) (.type m) = some b ∧ K (.bl b) G
  | [x, .tup [.ty m, .ty m']] => ∃ n b, tyW G x = some n ∧ PySem.W.kitAny c.K (.type n) [.type m, .type m'] = some b ∧ K (.bl b) G
  | _ => False
theorem cr_isi {c : Ct} : CR' c (fun xs H Q => rIsi c.K xs H Q ∨ rIsiT c.K xs H Q) (fIsi c) := by
  intro ws vs H G K Q r g h q
  unfold fIsi at h
  split at h
  · obtain ⟨n, b, h1, h2, k⟩ := h
    obtain ⟨v, v', rfl, hv, hv'⟩ := rv2 r
    cases (show v' = .ty _ from hv')
    exact .inl ⟨v, _, _, _, b, rfl, .ty _, tyX_of g hv h1, h2, q _ _ (.stay (w := .bl b) rfl g k)⟩
  · obtain ⟨n, b, h1, h2, k⟩ := h
    obtain ⟨v, v', rfl, hv, a, us, rfl, ha, rr⟩ := rv2 r
    obtain ⟨c1, c2, rfl, hc1, hc2⟩ := rv2 rr
    cases (show c1 = .ty _ from hc1)
    cases (show c2 = .ty _ from hc2)
    exact .inr ⟨v, a, _, _, _, b, rfl, ha, .cons (.ty _) (.cons (.ty _) .nil), tyX_of g hv h1, h2, q _ _ (.stay (w := .bl b) rfl g k)⟩
  · exact h.elim
theorem call_or {X : Cx} {u : Value} {r r' : List V → Hp → VK → Prop} (h : CallR X u r) (h' : CallR X u r') : CallR X u (fun xs H Q => r xs H Q ∨ r' xs H Q) := by
  intro pins s σ H vs us Q I rv q
  rcases q with q | q
  · exact h pins s σ H vs us Q I rv q
  · exact h' pins s σ H vs us Q I rv q
theorem q_isi (hm : X.mg "isinstance" = none) (h : AQ X (e :: es) ρ G fun ws G1 => fIsi (cc X) ws G1 K) (hg : Gl X "isinstance" := by rfl)
    (he : starEach (e :: es) X.env = (false, eval e X.env) :: starEach es X.env := by rfl) (hpl : (backTo pos (starEach es X.env)).any (·.1) = false := by rfl) : EQ X (.Call (.Name "isinstance" p) (e :: es) [] pos) ρ G K :=
  q_callB (call_or call_isi call_isiT) cr_isi hm (by decide +kernel) h hg (by decide) (by decide) he hpl
/-! ### sorted, min, max of lists of whole numbers -/
def fSortI : CRW := fun ws G K => match ws with
  | [w] => ∃ ns : List Int, LsA G w (ns.map W.int) ∧ ∀ (ms : List Int) (p : Addr), ms.Perm ns → ms.Pairwise (· ≤ ·) → G p = none → K (.ref p) (aup G p (.lst (ms.map W.int)))
  | _ => False
theorem cr_srt {c : Ct} : CR' c (rSortedI c.K) fSortI := by
  intro ws vs H G K Q r g h q
  match ws, h with
  | [w], ⟨ns, ha, k⟩ =>
    obtain ⟨v, rfl, hv⟩ := rv1 r
    obtain ⟨a, us, rfl, hu, rr⟩ := ha.sq g hv
    cases rr.ints_eq
    exact ⟨a, ns, rfl, hu, fun ms p h1 h2 hp => q _ _ ⟨.ref p, _, Keep.new hp, rfl, g.newL hp (RVs.ints ms), k ms p h1 h2 (g.free hp)⟩⟩
theorem q_sorted (hm : X.mg "sorted" = none) (h : AQ X (e :: es) ρ G fun ws G1 => fSortI ws G1 K) (hg : Gl X "sorted" := by rfl)
    (he : starEach (e :: es) X.env = (false, eval e X.env) :: starEach es X.env := by rfl) (hpl : (backTo pos (starEach es X.env)).any (·.1) = false := by rfl) : EQ X (.Call (.Name "sorted" p) (e :: es) [] pos) ρ G K :=
  q_callB cr_sortedI cr_srt hm (by decide +kernel) h hg (by decide) (by decide) he hpl
def fMinL : CRW := fun ws G K => match ws with
  | [w] => ∃ ns : List Int, LsA G w (ns.map W.int) ∧ 0 < ns.length ∧ ∀ m, m ∈ ns → (∀ y, y ∈ ns → m ≤ y) → K (.int m) G
  | _ => False
def fMaxL : CRW := fun ws G K => match ws with
  | [w] => ∃ ns : List Int, LsA G w (ns.map W.int) ∧ 0 < ns.length ∧ ∀ m, m ∈ ns → (∀ y, y ∈ ns → y ≤ m) → K (.int m) G
  | _ => False
theorem cr_minL {c : Ct} : CR' c (rMin c.K) fMinL := by
  intro ws vs H G K Q r g h q
  match ws, h with
  | [w], ⟨ns, ha, hl, k⟩ =>
    obtain ⟨v, rfl, hv⟩ := rv1 r
    obtain ⟨a, us, rfl, hu, rr⟩ := ha.sq g hv
    cases rr.ints_eq
    exact ⟨a, ns, rfl, hu, hl, fun m h1 h2 => q _ _ (.stay (w := .int m) rfl g (k m h1 h2))⟩
theorem cr_maxL {c : Ct} : CR' c (rMax c.K) fMaxL := by
  intro ws vs H G K Q r g h q
  match ws, h with
  | [w], ⟨ns, ha, hl, k⟩ =>
    obtain ⟨v, rfl, hv⟩ := rv1 r
    obtain ⟨a, us, rfl, hu, rr⟩ := ha.sq g hv
    cases rr.ints_eq
    exact ⟨a, ns, rfl, hu, hl, fun m h1 h2 => q _ _ (.stay (w := .int m) rfl g (k m h1 h2))⟩
theorem q_minL (hm : X.mg "min" = none) (h : AQ X [e] ρ G fun ws G1 => fMinL ws G1 K) (hc : X.calm = true := by rfl) (hg : Gl X "min" := by rfl)
    (he : starEach [e] X.env = (false, eval e X.env) :: starEach [] X.env := by rfl) (hpl : (backTo pos (starEach [] X.env)).any (·.1) = false := by rfl) : EQ X (.Call (.Name "min" p) [e] [] pos) ρ G K :=
  q_callB (cr_min hc) cr_minL hm (by decide +kernel) h hg (by decide) (by decide) he hpl
theorem q_maxL (hm : X.mg "max" = none) (h : AQ X [e] ρ G fun ws G1 => fMaxL ws G1 K) (hc : X.calm = true := by rfl) (hg : Gl X "max" := by rfl)
    (he : starEach [e] X.env = (false, eval e X.env) :: starEach [] X.env := by rfl) (hpl : (backTo pos (starEach [] X.env)).any (·.1) = false := by rfl) : EQ X (.Call (.Name "max" p) [e] [] pos) ρ G K :=
  q_callB (cr_max hc) cr_maxL hm (by decide +kernel) h hg (by decide) (by decide) he hpl
/-! ### more methods of lists -/
def mPop (a : Addr) (ws : List W) (G : AH) (K : W → AH → Prop) : Prop := match ws with
  | [] => ∃ xs w, G a = some (.lst xs) ∧ xs[xs.length - 1]? = some w ∧ K w (aup G a (.lst xs.dropLast))
  | _ => False
theorem RVs.dropLast {H : Hp} {ws : List W} {vs : List V} (r : RVs H ws vs) : RVs H ws.dropLast vs.dropLast := by
  rw [List.dropLast_eq_take, List.dropLast_eq_take, ← r.length]; exact r.take _
theorem mr_pop {c : Ct} : MR c rPop mPop := by
  intro a ws vs H G K Q r g h q
  match ws, h with
  | [], ⟨xs, w, ha, hl, k⟩ =>
    cases (show vs = [] from r)
    obtain ⟨us, hu, rr⟩ := g.lst ha
    obtain ⟨v, h1, h2⟩ := rr.get hl
    obtain ⟨k3, g3⟩ := g.mutL hu rr.dropLast
    exact ⟨a, us, v, rfl, rfl, hu, by rw [← rr.length]; exact h1, q _ _ ⟨w, _, k3, h2.mono k3, g3, k⟩⟩
theorem q_pop (h : EQ X o ρ G fun x G1 => ∃ a xs, x = .ref a ∧ G1 a = some (.lst xs) ∧ mPop a [] G1 K)
    (hbase : attributeBase o "pop" X.env (eval o X.env) = eval o X.env := by rfl) (hline : (apos.endLine == cpos.line) = true := by rfl) : EQ X (.Call (.Attribute o "pop" apos) [] [] cpos) ρ G K :=
  q_lm0 PySem.F.slot_list_pop PySem.F.type_list_pop mt_pop mr_pop h hbase hline
def rExtR : V → List V → Hp → VK → Prop := fun x vs H Q => ∃ l b xs zs, x = .ref l ∧ vs = [.ref b] ∧ H l = some (.lst xs) ∧ Rd H b (.lst zs) ∧ xs.length + zs.length ≤ sizeLine ∧ Q .non (upd H l (.lst (xs ++ zs)))
theorem mt_extR : MtM X "list.extend" rExtR := by
  intro pins s σ H x vs v us Q I rx rv h
  obtain ⟨l, b, xs, zs, rfl, rfl, hH, hB, hz, q⟩ := h
  cases rx
  obtain ⟨u, rfl, ru⟩ := rv.one
  cases ru
  obtain ⟨z, its, n, r, hl, e⟩ := I.lstM hH
  obtain ⟨z2, its2, n2, r2, hl2, e2⟩ := I.lstR hB
  have hsz : its.toArray.size + its2.toArray.size ≤ sizeLine := by rw [List.size_toArray, List.size_toArray]; omega
  have hlong : ¬ (!its.toArray.isEmpty && Builtin.List.listTooLong (its.toArray.size + its2.toArray.size)) = true := by
    rw [notLongL hsz, Bool.and_false]
    exact Bool.false_ne_true
  refine call_meets F.slot_list_extend ⟨_, e, rfl⟩ F.entry_list_extend (F.args_list_extend_2 _ _)
    (AutoSeq1.list_extend_list_list_0 l its.toArray n b its2.toArray n2 hlong (by rw [List.size_toArray]; omega) (by omega)) ⟨e, e2, ?_⟩
  refine ⟨.non, _, I.lset (its' := its ++ its2) hH e (by simp) (r.append r2) ?_, rfl, q⟩
  rw [List.length_append]
  omega
def mExt (a : Addr) (ws : List W) (G : AH) (K : W → AH → Prop) : Prop := match ws with
  | [w] => ∃ xs ys, G a = some (.lst xs) ∧ LsA G w ys ∧ xs.length + ys.length ≤ sizeLine ∧ K .non (aup G a (.lst (xs ++ ys)))
  | _ => False
theorem mr_ext {c : Ct} : MR c rExtR mExt := by
  intro a ws vs H G K Q r g h q
  match ws, h with
  | [w], ⟨xs, ys, ha, hy, hl, k⟩ =>
    obtain ⟨v, rfl, hv⟩ := rv1 r
    obtain ⟨us, hu, rr⟩ := g.lst ha
    obtain ⟨b, zs, rfl, hb, r2⟩ := hy.rd g hv
    obtain ⟨k3, g3⟩ := g.mutL hu (rr.append r2)
    exact ⟨a, b, us, zs, rfl, rfl, hu, hb, by rw [← rr.length, ← r2.length]; exact hl, q _ _ ⟨.non, _, k3, rfl, g3, k⟩⟩
theorem q_extend (h : EQ X o ρ G fun x G1 => ∃ a xs, x = .ref a ∧ G1 a = some (.lst xs) ∧ AQ X (e :: es) ρ G1 fun ws G2 => mExt a ws G2 K)
    (hbase : attributeBase o "extend" X.env (eval o X.env) = eval o X.env := by rfl)
    (hfew : ((backTo cpos (starEach (e :: es) X.env)).all (fun x => !x.1) && (backToKw cpos (keywordEach [] X.env)).all (fun x => x.1.isSome)
      && decide ((e :: es).length + ([] : List Keyword).length + (if ([] : List Keyword).isEmpty then 0 else 1) < 30)) = true := by rfl)
    (hline : (apos.endLine == cpos.line) = true := by rfl) (hs : starEach (e :: es) X.env = (false, eval e X.env) :: starEach es X.env := by rfl) (hplain : (backTo cpos (starEach es X.env)).any (·.1) = false := by rfl) :
    EQ X (.Call (.Attribute o "extend" apos) (e :: es) [] cpos) ρ G K := q_lm PySem.F.slot_list_extend PySem.F.type_list_extend mt_extR mr_ext h hbase hfew hline hs hplain
def mRev (a : Addr) (ws : List W) (G : AH) (K : W → AH → Prop) : Prop := match ws with
  | [] => ∃ xs, G a = some (.lst xs) ∧ K .non (aup G a (.lst xs.reverse))
  | _ => False
theorem RVs.reverse {H : Hp} : ∀ {ws : List W} {vs : List V}, RVs H ws vs → RVs H ws.reverse vs.reverse
  | [], _, e => by cases (show _ = ([] : List V) from e); exact RVs.nil
  | _ :: _, _, ⟨_, _, e, h, t⟩ => by subst e; rw [List.reverse_cons, List.reverse_cons]; exact (RVs.reverse t).append (.cons h RVs.nil)
theorem mr_rev {c : Ct} : MR c rReverse mRev := by
  intro a ws vs H G K Q r g h q
  match ws, h with
  | [], ⟨xs, ha, k⟩ =>
    cases (show vs = [] from r)
    obtain ⟨us, hu, rr⟩ := g.lst ha
    obtain ⟨k3, g3⟩ := g.mutL hu rr.reverse
    exact ⟨a, us, rfl, rfl, hu, q _ _ ⟨.non, _, k3, rfl, g3, k⟩⟩
theorem q_reverse (h : EQ X o ρ G fun x G1 => ∃ a xs, x = .ref a ∧ G1 a = some (.lst xs) ∧ mRev a [] G1 K)
    (hbase : attributeBase o "reverse" X.env (eval o X.env) = eval o X.env := by rfl) (hline : (apos.endLine == cpos.line) = true := by rfl) : EQ X (.Call (.Attribute o "reverse" apos) [] [] cpos) ρ G K :=
  q_lm0 PySem.F.slot_list_reverse PySem.F.type_list_reverse mt_reverse mr_rev h hbase hline
/-! ### methods of texts -/
def SR (c : Ct) (r : V → List V → Hp → VK → Prop) (R : Str → List W → AH → (W → AH → Prop) → Prop) : Prop := ∀ x ws vs H G K (Q : VK), RVs H ws vs → RG c H G → R x ws G K → (∀ z H', CW c H K z H' → Q z H') → r (.str x) vs H Q
theorem q_sm {name : Str} {id : String} {r : V → List V → Hp → VK → Prop} {R : Str → List W → AH → (W → AH → Prop) → Prop} (slot : Slot "str" name id) (hty : typeOf (.builtin id) = pure (.type "method_descriptor")) (hm : MtR X id r) (rr : SR (cc X) r R)
    (h : EQ X o ρ G fun x G1 => ∃ z, x = .str z ∧ AQ X (e :: es) ρ G1 fun ws G2 => R z ws G2 K)
    (hbase : attributeBase o name X.env (eval o X.env) = eval o X.env := by rfl)
    (hfew : ((backTo cpos (starEach (e :: es) X.env)).all (fun x => !x.1) && (backToKw cpos (keywordEach [] X.env)).all (fun x => x.1.isSome)
      && decide ((e :: es).length + ([] : List Keyword).length + (if ([] : List Keyword).isEmpty then 0 else 1) < 30)) = true := by rfl)
    (hline : (apos.endLine == cpos.line) = true := by rfl) (hs : starEach (e :: es) X.env = (false, eval e X.env) :: starEach es X.env := by rfl) (hplain : (backTo cpos (starEach es X.env)).any (·.1) = false := by rfl) :
    EQ X (.Call (.Attribute o name apos) (e :: es) [] cpos) ρ G K :=
  EQ.of (pe_bm PySem.F.plainAttrs_str slot hty hm pe_E pa_A hbase hfew hline hs hplain) fun σ H rs rg => ⟨ρ, G, _, h, rs, rg, fun u H1 ⟨x, G1, k1, rx, rg1, z, ex, q⟩ => by
    subst ex
    cases (show u = .str z from rx)
    exact ⟨rfl, ρ, G1, _, q, rs.mono k1, rg1, fun vs H2 ⟨ws, G2, k2, r2, rg2, _, q2⟩ => rr z ws vs H2 G2 K _ r2 rg2 q2 fun z H' y => y.pre (k1.trans k2)⟩⟩
def mJoin (x : Str) (ws : List W) (G : AH) (K : W → AH → Prop) : Prop := match ws with
  | [w] => ∃ ys : List Str, LsA G w (ys.map W.str) ∧ (ys.map (·.length)).sum + ys.length * x.length ≤ 16777216 ∧ K (.str (Txt.join x ys)) G
  | _ => False
theorem sr_join {c : Ct} : SR c (fun x xs H Q => ∃ a p, ∃ ys : List Str, x = .str a ∧ xs = [.ref p] ∧ (SqL c.K H p (ys.map V.str) ∨ SqT c.K H p (ys.map V.str)) ∧ (ys.map (·.length)).sum + ys.length * a.length ≤ 16777216 ∧ Q (.str (Txt.join a ys)) H) mJoin := by
  intro x ws vs H G K Q r g h q
  match ws, h with
  | [w], ⟨ys, ha, hl, k⟩ =>
    obtain ⟨v, rfl, hv⟩ := rv1 r
    obtain ⟨a, us, rfl, hu, rr⟩ := ha.sq g hv
    cases rr.strs_eq
    exact ⟨x, a, ys, rfl, rfl, .inl hu, hl, q _ _ (.stay (w := .str _) rfl g k)⟩
theorem q_join (h : EQ X o ρ G fun x G1 => ∃ z, x = .str z ∧ AQ X (e :: es) ρ G1 fun ws G2 => mJoin z ws G2 K)
    (hbase : attributeBase o "join" X.env (eval o X.env) = eval o X.env := by rfl)
    (hfew : ((backTo cpos (starEach (e :: es) X.env)).all (fun x => !x.1) && (backToKw cpos (keywordEach [] X.env)).all (fun x => x.1.isSome)
      && decide ((e :: es).length + ([] : List Keyword).length + (if ([] : List Keyword).isEmpty then 0 else 1) < 30)) = true := by rfl)
    (hline : (apos.endLine == cpos.line) = true := by rfl) (hs : starEach (e :: es) X.env = (false, eval e X.env) :: starEach es X.env := by rfl) (hplain : (backTo cpos (starEach es X.env)).any (·.1) = false := by rfl) :
    EQ X (.Call (.Attribute o "join" apos) (e :: es) [] cpos) ρ G K := q_sm PySem.F.slot_str_join PySem.F.type_str_join mt_join sr_join h hbase hfew hline hs hplain
end
end AL
namespace AL
open PySem PySem.Spec L2
open PyProof.Rows hiding St
/-! ### lists that are read, whichever way they are held -/
section
variable {G : AH} {w x : W} {xs : List W} {K : W → AH → Prop}
theorem LsA.new {p : Addr} {o : AO} (h : LsA G w xs) (hp : G p = none) : LsA (aup G p o) w xs := by
  cases w with
  | lst ys => exact h
  | ref a => exact aup_new hp h
  | _ => exact h.elim
theorem LsA.old {p : Addr} {o : AO} (h : LsA G w xs) (hp : w ≠ .ref p) : LsA (aup G p o) w xs := by
  cases w with
  | lst ys => exact h
  | ref a => exact aup_old (fun e => hp (by rw [e])) h
  | _ => exact h.elim
theorem LsA.sub {G' : AH} (h : LsA G w xs) (s : Sub G G') : LsA G' w xs := by
  cases w with
  | lst ys => exact h
  | ref a => exact s _ _ h
  | _ => exact h.elim
theorem LsA.ne {p : Addr} (h : LsA G w xs) (hp : G p = none) : w ≠ .ref p := fun e => by
  subst e
  rw [show G p = some (.lst xs) from h] at hp; cases hp
theorem LsA.nd {p : Addr} {o : AO} (h : LsA G w xs) (hp : G p = some o) (hn : ∀ l, o ≠ .lst l) : w ≠ .ref p := fun e => by
  subst e
  rw [show G p = some (.lst xs) from h] at hp; cases hp; exact hn _ rfl
theorem DkA.new {p : Addr} {o : AO} {kws : List (Key × W)} (h : DkA G w kws) (hp : G p = none) : DkA (aup G p o) w kws := by
  cases w with
  | ref a => exact h.elim (fun h => .inl (aup_new hp h)) fun h => .inr (aup_new hp h)
  | _ => exact h.elim
theorem DkA.old {p : Addr} {o : AO} {kws : List (Key × W)} (h : DkA G w kws) (hp : w ≠ .ref p) : DkA (aup G p o) w kws := by
  cases w with
  | ref a => exact h.elim (fun h => .inl (aup_old (fun e => hp (by rw [e])) h)) fun h => .inr (aup_old (fun e => hp (by rw [e])) h)
  | _ => exact h.elim
theorem DkA.sub {G' : AH} {kws : List (Key × W)} (h : DkA G w kws) (s : Sub G G') : DkA G' w kws := by
  cases w with
  | ref a => exact h.elim (fun h => .inl (s _ _ h)) fun h => .inr (s _ _ h)
  | _ => exact h.elim
theorem DkA.ne {p : Addr} {kws : List (Key × W)} (h : DkA G w kws) (hp : G p = none) : w ≠ .ref p := fun e => by
  subst e
  rcases h with h | h <;> (rw [h] at hp; cases hp)
theorem fIx_ls {i : Int} {v : W} (h : LsA G x xs) (e : atI xs i = some v) (k : K v G) : fIx x (.int i) G K := by
  cases x with
  | lst ys => cases (show ys = xs from h); show onO _ _; rw [e]; exact k
  | ref a => exact ⟨_, _, h, e, k⟩
  | _ => exact h.elim
theorem fLen_ls (h : LsA G x xs) (k : K (.int xs.length) G) : fLen [x] G K := by
  cases x with
  | lst ys => cases (show ys = xs from h); exact k
  | ref a => exact ⟨_, h, k⟩
  | _ => exact h.elim
theorem fList_ls (h : LsA G x xs) (k : ∀ p, G p = none → K (.ref p) (aup G p (.lst xs))) : fList [x] G K := by
  cases x with
  | lst ys => cases (show ys = xs from h); exact k
  | ref a => exact ⟨_, h, k⟩
  | _ => exact h.elim
theorem fTuple_ls (h : LsA G x xs) (k : K (.tup xs) G) : fTuple [x] G K := by
  cases x with
  | lst ys => cases (show ys = xs from h); exact k
  | ref a => exact ⟨_, h, k⟩
  | _ => exact h.elim
end
/-! ### dicts by small numbers -/
/-- the dict kws has just what b tells, at numbers below N -/
structure DI (N : Nat) (kws : List (Key × W)) (b : Nat → Option W) : Prop where
  get : ∀ j : Nat, lk kws (.inl (j : Int)) = b j
  nd : (kws.map (·.1)).Nodup
  dom : ∀ p ∈ kws, ∃ j : Nat, j < N ∧ p.1 = .inl (j : Int)
theorem nodup_below : ∀ (N : Nat) (l : List Nat), l.Nodup → (∀ x ∈ l, x < N) → l.length ≤ N
  | 0, l, _, h => by
    cases l with
    | nil => exact Nat.le_refl _
    | cons x l => exact absurd (h x List.mem_cons_self) (Nat.not_lt_zero _)
  | N + 1, l, nd, h => by
    have e : (l.filter fun x => decide (x ≠ N)).length ≤ N := nodup_below N _ (nd.filter _) fun x hx => by
      have hx := List.mem_filter.mp hx
      have := h x hx.1
      have : x ≠ N := by simpa using hx.2
      omega
    have c : l.length ≤ (l.filter fun x => decide (x ≠ N)).length + 1 := by
      clear h e
      induction l with
      | nil => simp
      | cons x l ih =>
        have nd := List.nodup_cons.mp nd
        by_cases z : x = N
        · subst z
          have : (l.filter fun y => decide (y ≠ x)) = l := List.filter_eq_self.mpr fun y hy => by
            simp; intro e; subst e; exact nd.1 hy
          rw [List.filter_cons_of_neg (by simp), this, List.length_cons]
          exact Nat.le_refl _
        · rw [List.filter_cons_of_pos (by simpa using z), List.length_cons, List.length_cons]
          have := ih nd.2
          omega
    omega
theorem DI.len {N : Nat} {kws : List (Key × W)} {b : Nat → Option W} (d : DI N kws b) : kws.length ≤ N := by
  have h : ((kws.map (·.1)).map fun k => match k with | .inl i => i.toNat | .inr _ => 0).length ≤ N := by
    refine nodup_below N _ ?_ fun x hx => ?_
    · have nd := d.nd
      have dm : ∀ k ∈ kws.map (·.1), ∃ j : Nat, k = Sum.inl (j : Int) := fun k hk => by
        obtain ⟨p, hp, rfl⟩ := List.mem_map.mp hk
        obtain ⟨j, _, e⟩ := d.dom p hp
        exact ⟨j, e⟩
      generalize kws.map (·.1) = l at nd dm
      induction l with
      | nil => exact List.nodup_nil
      | cons k l ih =>
        have nd := List.nodup_cons.mp nd
        rw [List.map_cons, List.nodup_cons]
        refine ⟨fun hm => ?_, ih nd.2 fun k hk => dm k (List.mem_cons_of_mem _ hk)⟩
        obtain ⟨k', hk', e⟩ := List.mem_map.mp hm
        obtain ⟨j, rfl⟩ := dm k List.mem_cons_self
        obtain ⟨j', rfl⟩ := dm k' (List.mem_cons_of_mem _ hk')
        have e : (j' : Int).toNat = (j : Int).toNat := e
        have : j' = j := by omega
        subst this
        exact nd.1 hk'
    · obtain ⟨k, hk, rfl⟩ := List.mem_map.mp hx
      obtain ⟨p, hp, rfl⟩ := List.mem_map.mp hk
      obtain ⟨j, hj, e⟩ := d.dom p hp
      rw [e]
      show (j : Int).toNat < N
      omega
  simpa using h
theorem DI.nil (N : Nat) : DI N [] fun _ => none := ⟨fun _ => rfl, List.nodup_nil, fun _ h => by cases h⟩
theorem pk_keys {κ : Type} [DecidableEq κ] (kws : List (κ × W)) (k : κ) (w : W) : (pk kws k w).map (·.1) = if (lk kws k).isSome = true then kws.map (·.1) else kws.map (·.1) ++ [k] := by
  unfold pk
  split
  · rw [List.map_map]
    refine List.map_congr_left fun p _ => ?_
    show (if p.1 = k then (p.1, w) else p).1 = p.1
    split <;> rfl
  · rw [List.map_append]; rfl
theorem lk_none {κ : Type} [DecidableEq κ] {kws : List (κ × W)} {k : κ} (h : ¬ (lk kws k).isSome = true) : k ∉ kws.map (·.1) := fun hm => by
  obtain ⟨p, hp, rfl⟩ := List.mem_map.mp hm
  apply h
  unfold lk
  rw [Option.isSome_map, List.find?_isSome]
  exact ⟨p, hp, by simp⟩
theorem DI.put {N j : Nat} {kws : List (Key × W)} {b : Nat → Option W} (d : DI N kws b) (hj : j < N) (w : W) : DI N (pk kws (.inl (j : Int)) w) fun i => if i = j then some w else b i := by
  refine ⟨fun i => ?_, ?_, fun p hp => ?_⟩
  · rw [lk_pk]
    by_cases e : i = j
    · subst e; simp
    · rw [if_neg e, if_neg (fun z => e (by injection z with z; omega))]; exact d.get i
  · rw [pk_keys]
    split
    · exact d.nd
    · rename_i h
      have := lk_none h
      rw [List.nodup_append]
      exact ⟨d.nd, by simp, fun a ha c hc e => by simp at hc; subst hc; subst e; exact this ha⟩
  · have hk : p.1 ∈ (pk kws (.inl (j : Int)) w).map (·.1) := List.mem_map_of_mem hp
    rw [pk_keys] at hk
    split at hk
    · obtain ⟨q, hq, e⟩ := List.mem_map.mp hk
      obtain ⟨i, hi, e2⟩ := d.dom q hq
      exact ⟨i, hi, by rw [← e]; exact e2⟩
    · rcases List.mem_append.mp hk with hk | hk
      · obtain ⟨q, hq, e⟩ := List.mem_map.mp hk
        obtain ⟨i, hi, e2⟩ := d.dom q hq
        exact ⟨i, hi, by rw [← e]; exact e2⟩
      · exact ⟨j, hj, by simpa using hk⟩
theorem DI.cong {N : Nat} {kws : List (Key × W)} {b b' : Nat → Option W} (d : DI N kws b) (h : ∀ i, b i = b' i) : DI N kws b' := ⟨fun i => (d.get i).trans (h i), d.nd, d.dom⟩
theorem keyW_nat (j : Nat) : keyW (.int (j : Int)) = some (.inl (j : Int)) := rfl
theorem DI.small {N : Nat} {kws : List (Key × W)} {b : Nat → Option W} (d : DI N kws b) (h : N ≤ 100000) : kws.length < sizeLine := Nat.lt_of_le_of_lt (Nat.le_trans d.len h) (by decide)
/-- two names by each item -/
theorem lk_map2 {X : Cx} {elt : Expr} {scope : Scope} {ρ : AS} {K : W → AH → Prop} {ι : Type} {y1 y2 : Str} {i1 i2 : Nat} {p1 p2 p3 : Pos} {kk : Nat} {zs : List ι} (g1 g2 h : ι → W) {okk : AH → Prop} {G1 : AH} (hN : X.N.Nodup) (hl : zs.length ≤ 100000) (ho : ∀ D ws, G1 D = none → okk (aup G1 D (.lst ws)))
    (turn : ∀ z, z ∈ zs → ∀ D ws, G1 D = none → Blk X scope fun Y => EQ Y elt ((ρ.set i1 (some (g1 z))).set i2 (some (g2 z))) (aup G1 D (.lst ws)) fun v G' => v = h z ∧ G' = aup G1 D (.lst ws)) (k : ∀ D, G1 D = none → K (.ref D) (aup G1 D (.lst (zs.map h))))
    (hi1 : X.N[i1]? = some y1 := by rfl) (hi2 : X.N[i2]? = some y2 := by rfl) (h12 : i1 ≠ i2 := by decide) (hx1 : Blk X scope fun Y => Loc Y.env.scope y1 := by exact fun _ _ _ _ _ => .inl rfl) (hx2 : Blk X scope fun Y => Loc Y.env.scope y2 := by exact fun _ _ _ _ _ => .inl rfl)
    (hf1 : Blk X scope fun Y => Y.fn y1 = true ∨ Y.env.scope.names.lookup y1 = some .local := by exact fun _ _ _ _ _ => .inr rfl) (hf2 : Blk X scope fun Y => Y.fn y2 = true ∨ Y.env.scope.names.lookup y2 = some .local := by exact fun _ _ _ _ _ => .inr rfl)
    (hc : Blk X scope fun Y => Y.calm = true := by exact fun _ _ _ _ _ => rfl)
    (hn : Blk X scope fun Y => (assignEach [.Name y1 p1, .Name y2 p2] Y.env).length = 2 := by exact fun _ _ _ _ _ => rfl) (hst : Blk X scope fun Y => (assignEach [.Name y1 p1, .Name y2 p2] Y.env).findIdx? (·.1) = none := by exact fun _ _ _ _ _ => rfl)
    (hs1 : Blk X scope fun Y => (assignEach [.Name y1 p1, .Name y2 p2] Y.env).map (·.2) = assign (.Name y1 p1) Y.env :: (assignEach [.Name y2 p2] Y.env).map (·.2) := by exact fun _ _ _ _ _ => rfl) (hs2 : Blk X scope fun Y => (assignEach [.Name y2 p2] Y.env).map (·.2) = assign (.Name y2 p2) Y.env :: (assignEach [] Y.env).map (·.2) := by exact fun _ _ _ _ _ => rfl) :
    LcK X scope (.Tuple [.Name y1 p1, .Name y2 p2] kk p3) elt [] [i1, i2] ρ K (zs.map fun z => .tup [g1 z, g2 z]) okk G1 := ⟨fun D hD => by
  refine ⟨fun n G' => G' = aup G1 D (.lst ((zs.take n).map h)), rfl, fun n G' _ e => by subst e; exact ho D _ hD, fun n x G' hx' e => ?_, fun G' e => by subst e; rw [List.length_map, List.take_length]; exact k D hD⟩
  subst e
  obtain ⟨z, hz, rfl⟩ : ∃ z, zs[n]? = some z ∧ W.tup [g1 z, g2 z] = x := by
    rw [List.getElem?_map] at hx'
    exact Option.map_eq_some_iff.mp hx'
  intro s0 H0 C cl fp
  refine n_tup rfl (ns_cons (n_name hN (ns_cons (n_name hN (ns_nil ?_) hi2 (by simp) (hx2 s0 H0 C cl fp) (hf2 s0 H0 C cl fp)) (hs2 s0 H0 C cl fp)) hi1 (by simp) (hx1 s0 H0 C cl fp) (hf1 s0 H0 C cl fp)) (hs1 s0 H0 C cl fp)) (hc s0 H0 C cl fp) (hn s0 H0 C cl fp) (hst s0 H0 C cl fp)
  intro s0 H0 C cl fp
  refine ts_nil (ifT ?_)
  intro s0 H0 C cl fp
  have e : ((wipeW ρ [i1, i2]).set i1 (some (g1 z))).set i2 (some (g2 z)) = (ρ.set i1 (some (g1 z))).set i2 (some (g2 z)) := by
    show ((((ρ.set i2 none).set i1 none).set i1 (some (g1 z))).set i2 (some (g2 z))) = _
    refine List.ext_getElem? fun j => ?_
    by_cases e2 : i2 = j
    · subst e2; simp [List.getElem?_set]
    · by_cases e1 : i1 = j
      · subst e1; simp [List.getElem?_set, e2]
      · simp [List.getElem?_set, e1, e2]
  rw [e]
  refine (turn z (List.mem_of_getElem? hz) D _ hD s0 H0 C cl fp).mono fun v G' ⟨e1, e2⟩ => ?_
  subst e1 e2
  refine ⟨_, aup_same, ?_, ?_⟩
  · rw [List.length_map, List.length_take]
    exact Nat.lt_of_le_of_lt (Nat.le_trans (Nat.min_le_right _ _) hl) (by decide)
  · show aup _ D _ = aup G1 D (.lst ((zs.take (n + 1)).map h))
    rw [aup_aup, List.take_succ, hz, Option.toList_some, List.map_append]
    rfl⟩
/-- one entry of a dict: its list is held by value from now on -/
theorem KWV.reput {H : Hp} {kws : List (Key × W)} {kvs : List (Key × V)} (r : KWV H kws kvs) (nd : (kws.map (·.1)).Nodup) {k : Key} {v : V} {w' : W} (hv : valV kvs k = some v) (h : RV H w' v) : KWV H (pk kws k w') kvs := by
  have all : ∀ p ∈ kvs, p.1 = k → p.2 = v := by
    have ek : kws.map (·.1) = kvs.map (·.1) := by
      clear nd hv
      unfold KWV at r
      induction r with
      | nil => rfl
      | cons h t ih => rw [List.map_cons, List.map_cons, h.1, ih]
    rw [ek] at nd
    clear ek r
    induction kvs with
    | nil => intro p hp; cases hp
    | cons q qs ih =>
      intro p hp e
      have nd := List.nodup_cons.mp nd
      by_cases z : q.1 = k
      · rw [valV_pos z] at hv
        rcases List.mem_cons.mp hp with hp | hp
        · rw [hp]; exact Option.some.inj hv
        · exact absurd (List.mem_map_of_mem (f := (·.1)) hp) (by rw [e, ← z]; exact nd.1)
      · rw [valV_neg z] at hv
        rcases List.mem_cons.mp hp with hp | hp
        · subst hp; exact absurd e z
        · exact ih nd.2 hv p hp e
  have sm : (lk kws k).isSome = true := by rw [← r.isSome k, hv]; rfl
  unfold pk
  rw [if_pos sm]
  clear nd hv sm
  unfold KWV at r ⊢
  induction r with
  | nil => exact .nil
  | @cons p q ps qs hh t ih =>
    rw [List.map_cons]
    refine .cons ?_ (ih fun p hp => all p (List.mem_cons_of_mem _ hp))
    by_cases z : p.1 = k
    · rw [if_pos z]
      exact ⟨hh.1, by rw [all q List.mem_cons_self (by rw [← hh.1]; exact z)]; exact h⟩
    · rw [if_neg z]; exact hh
theorem s_frzD {X : Cx} {es : List Stmt} {ρ : AS} {G : AH} {A : AEnds} {a d : Addr} {kws : List (Key × W)} {ws : List W} (k : Key) (hd : G d = some (.dK kws)) (nd : (kws.map (·.1)).Nodup) (hk : lk kws k = some (.ref a)) (ha : G a = some (.lst ws)) (h : SQ X es ρ (aup (adel G a) d (.dK (pk kws k (.lst ws)))) A) : SQ X es ρ G A := ⟨fun pins s σ H I rs rg => by
  obtain ⟨vs, hv, rr⟩ := rg.lst ha
  obtain ⟨od, I2⟩ := I.lock hv trivial
  obtain ⟨k2, rg2⟩ := rg.lock (od := od) hv
  obtain ⟨kvs, h1, h2⟩ := rg d _ hd
  have hda : d ≠ a := ane hd ha (fun q => by cases q)
  have vv := h2.val k
  rw [hk] at vv
  obtain ⟨v, e1, e2⟩ := vv
  have q2 : KWV (upd H a (.frz od (.lst vs))) (pk kws k (.lst ws)) kvs := (h2.mono k2).reput nd e1 ⟨a, vs, e2, ⟨od, upd_same⟩, rr.mono k2⟩
  have rg3 : RG (cc X) (upd H a (.frz od (.lst vs))) (aup (adel G a) d (.dK (pk kws k (.lst ws)))) := fun q o e => by
    by_cases z : q = d
    · subst z; rw [aup_same] at e; cases e
      exact ⟨kvs, by rw [upd_ne hda]; exact h1, q2⟩
    · rw [aup_ne z] at e; exact rg2 q o e
  exact thn (h.run pins s σ _ I2 (rs.mono k2) rg3) fun u s' q => SP.imp (D := CD (cc X) _ A) q (CD.pre k2)⟩
/-- {k: v} -/
theorem q_disp1 {X : Cx} {a b : Expr} {pos : Pos} {ρ : AS} {G : AH} {K : W → AH → Prop} (h : ∀ p, G p = none → EQ X a ρ (aup G p (.dK [])) fun x G1 => EQ X b ρ G1 fun y G2 => ∃ kk, keyW x = some kk ∧ G2 p = some (.dK []) ∧ K (.ref p) (aup G2 p (.dK [(kk, y)]))) : EQ X (.Dict [some a] [b] pos) ρ G K :=
  EQ.of (pe_disp (pps_cons pe_E pe_E pps_nil) rfl rfl (by simp) (by simp)) fun σ H rs rg => fun p hp =>
    ⟨ρ, aup G p (.dK []), _, h p (rg.free hp), rs.mono (Keep.new hp), rg.new hp (show RO _ _ p (.dK []) from ⟨[], upd_same, .nil⟩), fun u H1 ⟨x, G1, k1, rx, rg1, hv⟩ => ⟨ρ, G1, _, hv, (rs.mono (Keep.new hp)).mono k1, rg1, fun v H2 ⟨y, G2, k2, ry, rg2, kk, hk, hg, q⟩ => by
      obtain ⟨kvs0, h1, h2⟩ := rg2 p _ hg
      unfold KWV at h2
      cases h2
      have ek := rv_key hk rx
      subst ek
      obtain ⟨k4, rg4⟩ := rg2.mutD (kvs' := [(kk, v)]) (kws' := [(kk, y)]) h1 (.cons ⟨rfl, ry⟩ .nil)
      exact ⟨h1, [(kk, v)], rfl, by simp, .ref p, _, (((Keep.new hp).trans k1).trans k2).trans k4, rfl, rg4, q⟩⟩⟩
/-- reversed of a list -/
theorem i_rev {X : Cx} {tg e : Expr} {ρ : AS} {G : AH} {R : IK} {p pos : Pos} (hg : Gl X "reversed") (hm : X.mg "reversed" = none) (h : EQ X e ρ G fun w G1 => ∃ xs, LsA G1 w xs ∧ R xs.reverse (fun G => LsA G w xs) G1) (hs : starEach [e] X.env = [(false, eval e X.env)] := by rfl) :
    IQ X tg (.Call (.Name "reversed" p) [e] [] pos) ρ G R :=
  IQ.of (pi_reversed hg hm (pa_cons pe_E pa_nil hs) hs) fun σ H rs rg => ⟨ρ, G, _, h, rs, rg, fun u H1 ⟨w, G1, k1, rx, rg1, xs, ha, q⟩ => by
    obtain ⟨a, vs, e, hsq, r⟩ := ha.sq rg1 rx
    subst e
    refine ⟨a, vs, rfl, hsq, xs.reverse, _, G1, k1, rg1, ⟨fun i H2 G2 k2 rg2 o2 hi => ?_, fun i H2 G2 v H3 k2 rg2 o2 hi y => ?_, fun i H2 G2 k2 rg2 o2 hi => ?_⟩, q⟩
    · rw [List.length_reverse] at hi
      obtain ⟨a2, vs2, e2, hv2, r2⟩ := LsA.sq rg2 o2 (rx.mono k2)
      cases e2
      have l1 := r.length
      obtain ⟨v, h1, _⟩ := r2.get (show xs[vs.length - 1 - i]? = some (xs[vs.length - 1 - i]'(by omega)) by simp [show vs.length - 1 - i < xs.length by omega])
      exact ⟨by omega, vs2, v, hv2, h1⟩
    · rw [List.length_reverse] at hi
      obtain ⟨e, y⟩ := y
      subst e
      obtain ⟨a2, vs2, e2, hv2, r2⟩ := LsA.sq rg2 o2 (rx.mono k2)
      cases e2
      have l1 := r.length
      obtain ⟨w', h1, h2⟩ := r2.back (y vs2 hv2)
      refine ⟨Keep.refl, rg2, w', ?_, h2⟩
      rw [List.getElem?_reverse hi, l1]
      exact h1
    · rw [List.length_reverse, r.length] at hi
      exact hi⟩
/-- while, by a number that falls -/
theorem s_whileN {X : Cx} {c : Expr} {pos : Pos} {ρ : AS} {G : AH} {A : AEnds} {body : List Stmt} (hp : PassesOwn (model X.prog X.w) X.A X.env X.xe) (P : Nat → AS → AH → Prop) (m0 : Nat) (h0 : P m0 ρ G)
    (h : ∀ m ρ G, P m ρ G → BQ X c ρ G fun d G1 => ifB d (SQ X body ρ G1 { A with nx := fun ρ' G' => ∃ m', m' < m ∧ P m' ρ' G', ct := fun ρ' G' => ∃ m', m' < m ∧ P m' ρ' G', bk := A.nx }) (A.nx ρ G1)) : S1 X (.While c body [] pos) ρ G A :=
  S1.of (ps_while hp pt_T pss_S) fun σ H rs rg => by
    refine ⟨fun m σ' H' => ∃ ρ' G', Keep H H' ∧ RS H' σ' ρ' ∧ RG (cc X) H' G' ∧ P m ρ' G', ⟨m0, ρ, G, Keep.refl, rs, rg, h0⟩, ?_⟩
    rintro m σ1 H1 ⟨ρ1, G1, k1, rs1, rg1, p1⟩
    refine ⟨ρ1, G1, _, h m ρ1 G1 p1, rs1, rg1, fun d H2 ⟨G2, k2, rg2, q⟩ => ?_⟩
    cases d with
    | false => exact ⟨ρ1, G2, k1.trans k2, rs1.mono k2, rg2, q.h⟩
    | true =>
      refine ⟨fun σ' H' => ∃ ρ' G', (∃ m', m' < m ∧ P m' ρ' G') ∧ Keep H H' ∧ RS H' σ' ρ' ∧ RG (cc X) H' G', fun σ' H' ⟨ρ', G', ⟨m', l, p'⟩, k, rs', rg'⟩ => ⟨m', l, ρ', G', k, rs', rg', p'⟩, ρ1, G2, _, q.h, rs1.mono k2, rg2, ?_⟩
      refine ⟨fun σ' H' ⟨ρ', G', k, rs', rg', q'⟩ => ⟨ρ', G', q', (k1.trans k2).trans k, rs', rg'⟩, fun _ _ z => z.pre (k1.trans k2), fun _ _ z => z.pre (k1.trans k2), fun σ' H' ⟨ρ', G', k, rs', rg', q'⟩ => ⟨ρ', G', q', (k1.trans k2).trans k, rs', rg'⟩⟩
end AL
namespace AL
open PySem PySem.Spec L2
open PyProof.Rows hiding St
theorem reads_ints {h : Heap} : ∀ {ns : List Int} {vs : List V} {us : List Value}, vs = ns.map V.int → Vals vs us → ReadsAll h us (ns.map PyData.int) []
  | [], _, _, e, r => by subst e; cases r; exact .nil
  | n :: ns, _, _, e, r => by
    subst e
    cases r with
    | cons r1 r2 =>
      obtain ⟨t, rfl⟩ := (show ∃ t, _ = Value.int n t from r1)
      exact .cons (as := []) (bs := []) (.int n t) (reads_ints rfl r2)
def rMaxDef (K : PySem.W.Frag) : List V → List V → Hp → VK → Prop := fun vs zs H Q => ∃ (a : Addr) (ns : List Int) (d : Int), vs = [.ref a] ∧ zs = [.int d] ∧ SqL K H a (ns.map V.int) ∧ (ns = [] → Q (.int d) H) ∧ ∀ n r, ns = n :: r → Q (.int (r.foldl max n)) H
theorem cr_maxDef {X : Cx} (hc : X.calm = true) (hu : X.A.units + 64 < cLine) : CallRK X (.builtin "max") [Str.ofString "default"] (rMaxDef X.K) := by
  intro pins s σ H vs zs us ws Q I r rz h
  obtain ⟨a, ns, d, rfl, rfl, hs, q1, q2⟩ := h
  obtain rfl := Vals.ref1 r
  obtain ⟨w1, rfl, e1⟩ := vals1 rz
  obtain ⟨its, rv, hl, hz⟩ := I.list hs
  have dep : PyData.depthAll (ns.map PyData.int) ≤ 0 := dep_ints ns
  refine PySem.W.max_list_default (xs := ns.map PyData.int) (as := []) (I.ok.hd hc) hl.isList (by simpa using reads_ints rfl rv) ⟨fun x hx y hy => ?_, fun x hx => ?_⟩ (by omega) (fun e h' tk hk => ?_) fun y ys i v h' tk bs e hv hr hk => ?_
  · obtain ⟨n, _, rfl⟩ := List.mem_map.mp hx
    obtain ⟨m, _, rfl⟩ := List.mem_map.mp hy
    rfl
  · obtain ⟨n, _, rfl⟩ := List.mem_map.mp hx
    intro z; cases z
  · have e : ns = [] := List.map_eq_nil_iff.mp e
    exact ⟨.int d, H, I.kept (t' := tk) hk, e1, q1 e⟩
  · cases ns with
    | nil => cases e
    | cons n r =>
      rw [List.map_cons, List.cons.injEq] at e
      obtain ⟨rfl, rfl⟩ := e
      rw [PySem.W.maxD_ints] at hr
      cases hr with
      | int _ t => exact ⟨.int _, H, I.kept (t' := tk) hk, ⟨_, rfl⟩, q2 n r rfl⟩
section
variable {X : Cx} {e : Expr} {p pos p2 kpos : Pos} {ρ : AS} {G : AH} {K : W → AH → Prop}
/-- max(.., default = d), of whole numbers -/
theorem q_maxDef {d : Int} {j : Nat} (hu : X.A.units + 64 < cLine) (hm : X.mg "max" = none) (h : AQ X [e] ρ G fun ws G1 => ∃ w ns, ws = [w] ∧ LsA G1 w (ns.map W.int) ∧ (ns = [] → K (.int d) G1) ∧ ∀ n r, ns = n :: r → K (.int (r.foldl max n)) G1) (hc : X.calm = true := by rfl) (hg : Gl X "max" := by rfl)
    (he : backTo pos (starEach [e] X.env) = (false, eval e X.env) :: backTo pos (starEach [] X.env) := by rfl) (hpl : (backTo pos (starEach [e] X.env)).any (·.1) = false := by rfl)
    (hall : (backToKw pos (keywordEach [⟨some "default", .Constant (.int d) j p2, kpos⟩] X.env)).all (·.1.isSome) = true := by rfl) (hnone : (backToKw pos (keywordEach [⟨some "default", .Constant (.int d) j p2, kpos⟩] X.env)).any (·.1.isNone) = false := by rfl) (hks : (backToKw pos (keywordEach [⟨some "default", .Constant (.int d) j p2, kpos⟩] X.env)).filterMap (·.1) = [Str.ofString "default"] := by rfl) :
    EQ X (.Call (.Name "max" p) [e] [⟨some "default", .Constant (.int d) j p2, kpos⟩] pos) ρ G K :=
  EQ.of (pe_callBK (cr_maxDef hc hu) hg hm (by decide +kernel) pa_A (pk_cons pe_int pk_nil) (by decide) (by decide) he hpl hall hnone hks) fun σ H rs rg => ⟨ρ, G, _, h, rs, rg, fun vs H1 ⟨ws, G1, k1, r1, rg1, _, w, ns, e, ha, q1, q2⟩ => by
    subst e
    obtain ⟨v, rfl, hv⟩ := rv1 r1
    obtain ⟨a, us, rfl, hu', rr⟩ := ha.sq rg1 hv
    cases rr.ints_eq
    exact ⟨a, ns, d, rfl, rfl, hu', fun e => (CW.stay (w := .int d) rfl rg1 (q1 e)).pre k1, fun n r e => (CW.stay (w := .int _) rfl rg1 (q2 n r e)).pre k1⟩⟩
end
section
variable {X : Cx} {a b : Expr} {pos : Pos} {ρ : AS} {G : AH} {K : W → AH → Prop}
/-- text * int -/
def fMulS : WR := fun x y G K => match x, y with
  | .str z, .int n => PySem.MulOk z n ∧ K (.str (PySem.Txt.mul z n)) G
  | _, _ => False
theorem op_mulS : OpR X (binaryOp .Mult) (fun x y H Q => ∃ z n, x = .str z ∧ y = .int n ∧ PySem.MulOk z n ∧ Q (.str (PySem.Txt.mul z n)) H) := by
  intro pins s σ H x y v u Q I rx ry h
  obtain ⟨z, n, rfl, rfl, hz, q⟩ := h
  obtain ⟨t, rfl⟩ := rx
  obtain ⟨t', rfl⟩ := ry
  exact PySem.SB.mul hz (fun t' tk => ⟨.str _, H, I.tok _, ⟨_, rfl⟩, q⟩)
theorem q_mulS (h : EQ X a ρ G fun x G1 => EQ X b ρ G1 fun y G2 => fMulS x y G2 K) : EQ X (.BinOp a .Mult b pos) ρ G K := by
  refine q_op (R := fMulS) op_mulS (fun x y u v H G K Q rx ry g h q => ?_) h
  cases x with
  | str z => cases y with
    | int n =>
      cases (show u = .str z from rx)
      cases (show v = .int n from ry)
      exact ⟨z, n, rfl, rfl, h.1, q _ _ (.stay (w := .str _) rfl g h.2)⟩
    | _ => exact h.elim
  | _ => exact h.elim
/-- script[i] -/
theorem q_ixS (h : EQ X a ρ G fun x G1 => EQ X b ρ G1 fun y G2 => ∃ p ns, ∃ (j : Nat) (n : Int), x = .ref p ∧ y = .int (j : Nat) ∧ Scr (cc X) G2 p ns ∧ ns[j]? = some n ∧ K (.int n) G2) (hs : PlainIx b := by exact fun _ _ => rfl) : EQ X (.Subscript a b pos) ρ G K :=
  EQ.of (pe_ix ix_seq pe_E pe_E hs) fun σ H rs rg => ⟨ρ, G, _, h, rs, rg, fun u H1 ⟨x, G1, k1, rx, rg1, hb⟩ => ⟨ρ, G1, _, hb, rs.mono k1, rg1, fun v H2 ⟨y, G2, k2, ry, rg2, p, ns, j, n, e1, e2, hS, hn, k⟩ => by
    subst e1 e2
    cases (show u = .ref p from rx)
    cases (show v = .int (j : Nat) from ry)
    exact .inl ⟨p, _, _, .int n, rfl, rfl, hS.sq rg2, atI_nat (by rw [List.getElem?_map, hn]; rfl), (CW.stay (w := .int n) rfl rg2 k).pre (k1.trans k2)⟩⟩⟩
theorem mul_okS {c : Nat} {n : Nat} (h : n ≤ 8) : PySem.MulOk ⟨#[c]⟩ (n : Int) := by
  have : n = 0 ∨ n = 1 ∨ n = 2 ∨ n = 3 ∨ n = 4 ∨ n = 5 ∨ n = 6 ∨ n = 7 ∨ n = 8 := by omega
  have l : (⟨#[c]⟩ : Str).length = 1 := rfl
  unfold PySem.MulOk
  rw [l]
  rcases this with e | e | e | e | e | e | e | e | e <;> subst e <;> decide +kernel
theorem mul_cps {c : Nat} {n : Nat} (h : n ≤ 8) : (PySem.Txt.mul ⟨#[c]⟩ (n : Int)).cps.toList = List.replicate n c := by
  have : n = 0 ∨ n = 1 ∨ n = 2 ∨ n = 3 ∨ n = 4 ∨ n = 5 ∨ n = 6 ∨ n = 7 ∨ n = 8 := by omega
  rcases this with e | e | e | e | e | e | e | e | e <;> subst e <;> rfl
end
end AL
namespace AL
open PySem PySem.Spec L2
open PyProof.Rows hiding St
/-- a dict with tuples as keys: tracked, or locked -/
def DnA (G : AH) (w : W) (kws : List (W × W)) : Prop := match w with
  | .ref a => G a = some (.dN kws) ∨ G a = some (.zN kws)
  | _ => False
theorem DnA.new {G : AH} {w : W} {p : Addr} {o : AO} {kws : List (W × W)} (h : DnA G w kws) (hp : G p = none) : DnA (aup G p o) w kws := by
  cases w with
  | ref a => exact h.elim (fun h => .inl (aup_new hp h)) fun h => .inr (aup_new hp h)
  | _ => exact h.elim
theorem DnA.sub {G G' : AH} {w : W} {kws : List (W × W)} (h : DnA G w kws) (s : Sub G G') : DnA G' w kws := by
  cases w with
  | ref a => exact h.elim (fun h => .inl (s _ _ h)) fun h => .inr (s _ _ h)
  | _ => exact h.elim
section
variable {X : Cx} {pins : List (Addr × Obj)} {σ : St} {H : Hp} {s : Shared} {G : AH} {d : Addr} {kws : List (W × W)}
theorem dictN_rd (I : Inv X pins σ H s) (g : RG (cc X) H G) (h : DnA G (.ref d) kws) : ∃ es xs, NWV H kws es ∧ RawE es xs ∧ es.length ≤ sizeLine ∧ (d == sysModules) = false ∧ s.heap.DictOfH (nestedKind X.prog X.w) d xs ∧ (∃ ob, s.heap.get? d = some ob ∧ ob.dict = none) := by
  obtain ⟨es, r, raw⟩ : ∃ es, NWV H kws es ∧ rawN X.prog X.w d es s.heap := by
    rcases h with h | h
    · obtain ⟨es, hd, r⟩ := g d _ h
      exact ⟨es, r, (I.hok d _ hd).1⟩
    · obtain ⟨o, es, hd, r⟩ := g d _ h
      exact ⟨es, r, (I.hok d _ hd).2.1⟩
  obtain ⟨z, ns, xs, q, o, es', ep, h1, h2, h3, h4, h5⟩ := raw
  refine ⟨es, xs, r, q, z, ns, ⟨o, es', ep, h1, h2, h3, h4, fun x hx => ?_, h5⟩, ⟨o, h1, h2.2.1⟩⟩
  have go : ∀ {kws : List (W × W)} {es : List (NestedKey × Addr × V)} {xs : List (NestedKey × Addr × Value)}, NWV H kws es → RawE es xs → ∀ x ∈ xs, (nestedKind X.prog X.w).is s.heap x.1 x.2.1 := by
    intro kws es xs r q
    unfold NWV at r
    induction r generalizing xs with
    | nil => intro x hx; unfold RawE at q; cases q; cases hx
    | cons h t ih =>
      intro x hx
      unfold RawE at q
      cases q with
      | cons hq tq =>
        rcases List.mem_cons.mp hx with e | hx
        · subst e
          rw [← hq.1, ← hq.2.1, h.1]
          exact ⟨nested_of I _ _ _ h.2.1 h.2.2.2.1 rfl, h.2.2.1⟩
        · exact ih tq x hx
  exact go r q x hx
end
section
variable {X : Cx} {o e f : Expr} {pos apos cpos : Pos} {ρ : AS} {G : AH} {K : W → AH → Prop}
/-- d.get(k) -/
theorem q_getN1 (hu : X.A.units + 64 < cLine) (h : EQ X o ρ G fun x G1 => ∃ d kws, x = .ref d ∧ DnA G1 x kws ∧ EQ X e ρ G1 fun y G2 => ∃ kws, DnA G2 x kws ∧ keyOk y = true ∧ K ((lk kws y).getD .non) G2) (m : M1 X o "get" apos e cpos := by exact ⟨rfl, rfl, rfl, rfl⟩) : EQ X (.Call (.Attribute o "get" apos) [e] [] cpos) ρ G K := ⟨fun pins s σ H I rs rg => by
  refine wpAny_Call_method m.base m.few m.line PySem.F.plainAttrs_dict PySem.F.slot_dict_get PySem.F.type_dict_get (thn (h.run pins s σ H I rs rg) fun u s1 ⟨v, H1, I1, r1, x, G1, k1, rx, rg1, d, kws, ex, hd, q1⟩ => ?_)
  subst ex
  cases (show v = .ref d from rx)
  cases (show u = Value.ref d from r1)
  obtain ⟨_, _, _, _, _, _, dd0, od⟩ := dictN_rd I1 rg1 hd
  refine ⟨dd0.typeIs, fun b q => ?_, ?_⟩
  · cases q; exact od
  rw [m.trees]
  refine Calls.callWith_builtin rfl (Calls.evalArgs_plain (Calls.spliced_cons (thn (q1.run pins s1 σ H1 I1 (rs.mono k1) rg1) fun iv s2 ⟨v2, H2, I2, r2, y, G2, k2, ry, rg2, kws2, hd2, hk, k⟩ => Calls.spliced_nil ?_)))
  obtain ⟨bk, e⟩ := ref_of hk ry
  subst e
  cases (show iv = Value.ref bk from r2)
  obtain ⟨es, xs, r, e, hz, ns, dd, _⟩ := dictN_rd I2 rg2 hd2
  obtain ⟨hk1, hk2⟩ := keyOk_k hk
  refine call_meetsIn PySem.F.slot_dict_get dd.typeIs PySem.F.entry_dict_get (PySem.F.args_dict_get_2 _ _) (meetsH_dict_get (nestedKind X.prog X.w) d bk ns) ⟨show X.A.in1.units + 8 < cLine by show X.A.units + 1 + 8 < cLine; omega, nk y, xs, ⟨nested_of I2 y _ _ hk1 ry rfl, hk2⟩, dd, ?_⟩
  have ff := found_of r e hk1
  cases hl : lk kws2 y with
  | none =>
    rw [hl] at ff k
    rw [show atKey xs (nk y) = none from ff]
    exact ⟨.non, H2, I2.tok _, rfl, (CW.stay (w := .non) rfl rg2 k).pre (k1.trans k2)⟩
  | some w =>
    rw [hl] at ff k
    obtain ⟨b', v', u', f1, f2, f3⟩ := ff
    rw [f1]
    exact ⟨v', H2, I2.tok _, f3, (CW.stay f2 rg2 k).pre (k1.trans k2)⟩⟩
/-- d.get(k, x) -/
theorem q_getN2 (hu : X.A.units + 64 < cLine) (h : EQ X o ρ G fun x G1 => ∃ d kws, x = .ref d ∧ DnA G1 x kws ∧ EQ X e ρ G1 fun y G2 => EQ X f ρ G2 fun z G3 => ∃ kws, DnA G3 x kws ∧ keyOk y = true ∧ K ((lk kws y).getD z) G3) (m : M2 X o "get" apos e f cpos := by exact ⟨rfl, rfl, rfl, rfl⟩) : EQ X (.Call (.Attribute o "get" apos) [e, f] [] cpos) ρ G K := ⟨fun pins s σ H I rs rg => by
  refine wpAny_Call_method m.base m.few m.line PySem.F.plainAttrs_dict PySem.F.slot_dict_get PySem.F.type_dict_get (thn (h.run pins s σ H I rs rg) fun u s1 ⟨v, H1, I1, r1, x, G1, k1, rx, rg1, d, kws, ex, hd, q1⟩ => ?_)
  subst ex
  cases (show v = .ref d from rx)
  cases (show u = Value.ref d from r1)
  obtain ⟨_, _, _, _, _, _, dd0, od⟩ := dictN_rd I1 rg1 hd
  refine ⟨dd0.typeIs, fun b q => ?_, ?_⟩
  · cases q; exact od
  rw [m.trees]
  refine Calls.callWith_builtin rfl (Calls.evalArgs_plain (Calls.spliced_cons (thn (q1.run pins s1 σ H1 I1 (rs.mono k1) rg1) fun iv s2 ⟨v2, H2, I2, r2, y, G2, k2, ry, rg2, q2⟩ =>
    Calls.spliced_cons (thn (q2.run pins s2 σ H2 I2 (rs.mono (k1.trans k2)) rg2) fun fv s3 ⟨v3, H3, I3, r3, z, G3, k3, rz, rg3, kws2, hd2, hk, k⟩ => Calls.spliced_nil ?_))))
  have ry := ry.mono k3
  obtain ⟨bk, e⟩ := ref_of hk ry
  subst e
  cases (show iv = Value.ref bk from r2)
  obtain ⟨es, xs, r, e, hz, ns, dd, _⟩ := dictN_rd I3 rg3 hd2
  obtain ⟨hk1, hk2⟩ := keyOk_k hk
  refine call_meetsIn PySem.F.slot_dict_get dd.typeIs PySem.F.entry_dict_get (PySem.F.args_dict_get_3 _ _ _) (meetsH_dict_get_default (nestedKind X.prog X.w) d bk ns fv) ⟨show X.A.in1.units + 8 < cLine by show X.A.units + 1 + 8 < cLine; omega, nk y, xs, ⟨nested_of I3 y _ _ hk1 ry rfl, hk2⟩, dd, ?_⟩
  have ff := found_of r e hk1
  cases hl : lk kws2 y with
  | none =>
    rw [hl] at ff k
    rw [show atKey xs (nk y) = none from ff]
    exact ⟨v3, H3, I3.tok _, r3, (CW.stay rz rg3 k).pre ((k1.trans k2).trans k3)⟩
  | some w =>
    rw [hl] at ff k
    obtain ⟨b', v', u', f1, f2, f3⟩ := ff
    rw [f1]
    exact ⟨v', H3, I3.tok _, f3, (CW.stay f2 rg3 k).pre ((k1.trans k2).trans k3)⟩⟩
/-- dict(d) -/
theorem q_dictD {p : Pos} {es : List Expr} (hm : X.mg "dict" = none) (h : AQ X (e :: es) ρ G fun ws G1 => ∃ w kws, ws = [w] ∧ DkA G1 w kws ∧ ∀ p, G1 p = none → K (.ref p) (aup G1 p (.dK kws))) (hg : Gl X "dict" := by rfl)
    (he : starEach (e :: es) X.env = (false, eval e X.env) :: starEach es X.env := by rfl) (hpl : (backTo pos (starEach es X.env)).any (·.1) = false := by rfl) : EQ X (.Call (.Name "dict" p) (e :: es) [] pos) ρ G K :=
  q_callT (R := fun ws G1 K => ∃ w kws, ws = [w] ∧ DkA G1 w kws ∧ ∀ p, G1 p = none → K (.ref p) (aup G1 p (.dK kws))) call_dictD (fun ws vs H G K Q r g ⟨w, kws, e, hd, k⟩ q => by
    subst e
    obtain ⟨v, rfl, hv⟩ := rv1 r
    obtain ⟨a, kvs, rfl, hr, kv⟩ := hd.rd g hv
    exact ⟨a, kvs, rfl, hr, fun p hp => q _ _ ⟨.ref p, _, Keep.new hp, rfl, g.new hp (show RO _ _ p (.dK kws) from ⟨kvs, upd_same, kv.mono (Keep.new hp)⟩), k p (g.free hp)⟩⟩) hm (by decide +kernel) h hg (by decide) (by decide) he hpl
end
end AL
namespace SW
open PySem PySem.Spec L2 AL
def top (i : Nat) : Stmt := PySem.Challenge.pw_samewise_k85_whole_names_in_a_row.main.body.getD i (.Pass ⟨0, 0, 0, 0⟩)
/-- names of built-ins that the text leaves alone -/
structure Bl (mg : Str → Option Value) : Prop where
  len : mg "len" = none
  min : mg "min" = none
  max : mg "max" = none
  range : mg "range" = none
  list : mg "list" = none
  tuple : mg "tuple" = none
  zip : mg "zip" = none
  abs : mg "abs" = none
  int : mg "int" = none
  divmod : mg "divmod" = none
  enumerate : mg "enumerate" = none
  any : mg "any" = none
  all : mg "all" = none
  sum : mg "sum" = none
  reversed : mg "reversed" = none
  dict : mg "dict" = none
  sorted : mg "sorted" = none
  isinstance : mg "isinstance" = none
  repr : mg "repr" = none
  str : mg "str" = none
  bool : mg "bool" = none
end SW
namespace SW
open PySem
/-- a term -/
inductive Tm where
  | num (n : Int) | name (x : Str) | of (w : Str) (ks : List Nat)
  deriving DecidableEq
/-- a class's sameness under leads -/
def mk (ls : List Nat) : Tm → Tm
  | .num n => .num n
  | .name x => .name x
  | .of w ks => .of w (ks.map fun k => ls.getD k 0)
def uni (ls : List Nat) (i j : Nat) : List Nat :=
  if ls.getD i 0 = ls.getD j 0 then ls else ls.map fun x => if x = max (ls.getD i 0) (ls.getD j 0) then min (ls.getD i 0) (ls.getD j 0) else x
def lkT (s : List (Tm × Nat)) (m : Tm) : Option Nat := (s.find? fun p => decide (p.1 = m)).map (·.2)
structure US where
  seen : List (Tm × Nat)
  ls : List Nat
  met : Bool
def ulStep (ts : List Tm) (st : US) (k : Nat) : US :=
  match lkT st.seen (mk st.ls (ts.getD k (.num 0))) with
  | none => { st with seen := st.seen ++ [(mk st.ls (ts.getD k (.num 0)), k)] }
  | some s => if st.ls.getD s 0 = st.ls.getD k 0 then st else { st with ls := uni st.ls s k, met := true }
def ulPass (ts : List Tm) (ls : List Nat) : Nat → US
  | 0 => ⟨[], ls, false⟩
  | k + 1 => ulStep ts (ulPass ts ls k) k
def ulAll (ts : List Tm) (ls : List Nat) : US := ulPass ts ls ts.length
/-- as often as there is something to be done -/
def ulLoop (ts : List Tm) : Nat → List Nat → List Nat
  | 0, ls => ls
  | f + 1, ls => if (ulAll ts ls).met = true then ulLoop ts f (ulAll ts ls).ls else (ulAll ts ls).ls
def edged (ls : List Nat) (es : List (Nat × Nat)) : List Nat := es.foldl (fun l e => uni l e.1 e.2) ls
def closedM (ts : List Tm) (es : List (Nat × Nat)) : List Nat := ulLoop ts ((edged (List.range ts.length) es).sum + 1) (edged (List.range ts.length) es)

/-! ### leads -/
structure Good (n : Nat) (ls : List Nat) : Prop where
  len : ls.length = n
  le : ∀ k, k < n → ls.getD k 0 ≤ k
  idem : ∀ k, k < n → ls.getD (ls.getD k 0) 0 = ls.getD k 0
theorem getD_map {ls : List Nat} {f : Nat → Nat} {k : Nat} (h : k < ls.length) : (ls.map f).getD k 0 = f (ls.getD k 0) := by
  simp [List.getD, h]
theorem getD_range {n k : Nat} (h : k < n) : (List.range n).getD k 0 = k := by simp [List.getD, h]
theorem Good.range (n : Nat) : Good n (List.range n) := ⟨List.length_range, fun k h => by rw [getD_range h]; exact Nat.le_refl _, fun k h => by rw [getD_range h, getD_range h]⟩
theorem Good.lt {n : Nat} {ls : List Nat} (g : Good n ls) {k : Nat} (h : k < n) : ls.getD k 0 < n := Nat.lt_of_le_of_lt (g.le k h) h
theorem uni_at {n : Nat} {ls : List Nat} (g : Good n ls) {i j k : Nat} (hk : k < n) : (uni ls i j).getD k 0 = if ls.getD i 0 = ls.getD j 0 then ls.getD k 0 else if ls.getD k 0 = max (ls.getD i 0) (ls.getD j 0) then min (ls.getD i 0) (ls.getD j 0) else ls.getD k 0 := by
  unfold uni
  by_cases e : ls.getD i 0 = ls.getD j 0
  · rw [if_pos e, if_pos e]
  · rw [if_neg e, if_neg e, getD_map (by rw [g.len]; exact hk)]
theorem Good.uni {n : Nat} {ls : List Nat} (g : Good n ls) {i j : Nat} (hi : i < n) (hj : j < n) : Good n (SW.uni ls i j) := by
  have li := g.lt hi
  have lj := g.lt hj
  refine ⟨?_, fun k hk => ?_, fun k hk => ?_⟩
  · unfold SW.uni
    split
    · exact g.len
    · rw [List.length_map]; exact g.len
  · rw [uni_at g hk]
    have := g.le k hk
    split
    · exact this
    · split
      · omega
      · exact this
  · have lk := g.lt hk
    have ii := g.idem i hi
    have jj := g.idem j hj
    have kk := g.idem k hk
    by_cases e : ls.getD i 0 = ls.getD j 0
    · rw [uni_at g hk, if_pos e, uni_at g lk, if_pos e]; exact kk
    · rw [uni_at g hk, if_neg e]
      by_cases q : ls.getD k 0 = max (ls.getD i 0) (ls.getD j 0)
      · rw [if_pos q]
        have lm : min (ls.getD i 0) (ls.getD j 0) < n := by omega
        rw [uni_at g lm, if_neg e]
        have : ls.getD (min (ls.getD i 0) (ls.getD j 0)) 0 = min (ls.getD i 0) (ls.getD j 0) := by
          rcases Nat.le_total (ls.getD i 0) (ls.getD j 0) with z | z
          · rw [Nat.min_eq_left z]; exact ii
          · rw [Nat.min_eq_right z]; exact jj
        rw [this, if_neg (by omega)]
      · rw [if_neg q, uni_at g lk, if_neg e, kk, if_neg q]
/-- made one -/
theorem uni_eq {n : Nat} {ls : List Nat} (g : Good n ls) {i j : Nat} (hi : i < n) (hj : j < n) : (uni ls i j).getD i 0 = (uni ls i j).getD j 0 := by
  rw [uni_at g hi, uni_at g hj]
  by_cases e : ls.getD i 0 = ls.getD j 0
  · rw [if_pos e, if_pos e, e]
  · rw [if_neg e, if_neg e]
    rcases Nat.lt_or_ge (ls.getD i 0) (ls.getD j 0) with z | z
    · rw [if_neg (by omega), if_pos (by omega)]; omega
    · rw [if_pos (by omega), if_neg (by omega)]; omega
/-- what is one stays one -/
theorem uni_keep {n : Nat} {ls : List Nat} (g : Good n ls) {i j a b : Nat} (ha : a < n) (hb : b < n) (e : ls.getD a 0 = ls.getD b 0) : (uni ls i j).getD a 0 = (uni ls i j).getD b 0 := by
  rw [uni_at g ha, uni_at g hb, e]
theorem sum_map_le (ls : List Nat) (hi lo : Nat) (h : lo < hi) : (ls.map fun x => if x = hi then lo else x).sum ≤ ls.sum := by
  induction ls with
  | nil => exact Nat.le_refl _
  | cons x ls ih =>
    rw [List.map_cons, List.sum_cons, List.sum_cons]
    split <;> omega
theorem sum_map_lt (ls : List Nat) (hi lo : Nat) (h : lo < hi) (m : hi ∈ ls) : (ls.map fun x => if x = hi then lo else x).sum < ls.sum := by
  induction ls with
  | nil => cases m
  | cons x ls ih =>
    rw [List.map_cons, List.sum_cons, List.sum_cons]
    have := sum_map_le ls hi lo h
    by_cases e : x = hi
    · rw [if_pos e]; omega
    · rw [if_neg e]
      have := ih ((List.mem_cons.mp m).resolve_left (fun z => e z.symm))
      omega
theorem uni_sum {n : Nat} {ls : List Nat} (g : Good n ls) {i j : Nat} (hi : i < n) (hj : j < n) (e : ¬ ls.getD i 0 = ls.getD j 0) : (uni ls i j).sum < ls.sum := by
  unfold uni
  rw [if_neg e]
  have mem : ∀ k, k < n → ls.getD k 0 ∈ ls := fun k hk => by
    have hk' : k < ls.length := by rw [g.len]; exact hk
    have : ls.getD k 0 = ls[k] := by simp [List.getD, hk']
    rw [this]; exact List.getElem_mem hk'
  refine sum_map_lt _ _ _ (by omega) ?_
  rcases Nat.le_total (ls.getD i 0) (ls.getD j 0) with z | z
  · rw [Nat.max_eq_right z]; exact mem j hj
  · rw [Nat.max_eq_left z]; exact mem i hi

/-! ### sameness -/
structure Congr (ts : List Tm) (es : List (Nat × Nat)) (R : Nat → Nat → Prop) : Prop where
  refl : ∀ a, R a a
  symm : ∀ a b, R a b → R b a
  trans : ∀ a b c, R a b → R b c → R a c
  edge : ∀ e ∈ es, R e.1 e.2
  same : ∀ i j, i < ts.length → j < ts.length → ts[i]? = ts[j]? → R i j
  cong : ∀ i j w ks js, ts[i]? = some (.of w ks) → ts[j]? = some (.of w js) → ks.length = js.length → (∀ k (h : k < ks.length) (h' : k < js.length), R ks[k] js[k]) → R i j
/-- every arm stands ahead -/
def WfT (ts : List Tm) : Prop := ∀ (i : Nat) (w : Str) (ks : List Nat), ts[i]? = some (Tm.of w ks) → ∀ k ∈ ks, k < i
/-- each term with its lead is in R -/
def Sound (n : Nat) (R : Nat → Nat → Prop) (ls : List Nat) : Prop := ∀ k, k < n → R k (ls.getD k 0)
theorem Sound.uni {ts : List Tm} {es : List (Nat × Nat)} {R : Nat → Nat → Prop} (C : Congr ts es R) {n : Nat} {ls : List Nat} (g : Good n ls) (s : Sound n R ls) {i j : Nat} (hi : i < n) (hj : j < n) (r : R i j) : Sound n R (SW.uni ls i j) := by
  intro k hk
  rw [uni_at g hk]
  have si := s i hi
  have sj := s j hj
  have sk := s k hk
  split
  · exact sk
  · split
    · rename_i e q
      rcases Nat.le_total (ls.getD i 0) (ls.getD j 0) with z | z
      · rw [Nat.min_eq_left z]
        rw [Nat.max_eq_right z] at q
        rw [q] at sk
        exact C.trans _ _ _ sk (C.trans _ _ _ (C.symm _ _ sj) (C.trans _ _ _ (C.symm _ _ r) si))
      · rw [Nat.min_eq_right z]
        rw [Nat.max_eq_left z] at q
        rw [q] at sk
        exact C.trans _ _ _ sk (C.trans _ _ _ (C.symm _ _ si) (C.trans _ _ _ r sj))
    · exact sk
theorem edged_ok {n : Nat} : ∀ (es : List (Nat × Nat)) (ls : List Nat), Good n ls → (∀ e ∈ es, e.1 < n ∧ e.2 < n) → Good n (edged ls es) ∧ (∀ a b, a < n → b < n → ls.getD a 0 = ls.getD b 0 → (edged ls es).getD a 0 = (edged ls es).getD b 0) ∧ ∀ e ∈ es, (edged ls es).getD e.1 0 = (edged ls es).getD e.2 0
  | [], ls, g, _ => ⟨g, fun _ _ _ _ h => h, fun e h => by cases h⟩
  | e :: es, ls, g, h => by
    have he := h e List.mem_cons_self
    obtain ⟨g2, k2, e2⟩ := edged_ok es (uni ls e.1 e.2) (g.uni he.1 he.2) fun x hx => h x (List.mem_cons_of_mem _ hx)
    refine ⟨g2, fun a b ha hb q => k2 a b ha hb (uni_keep g ha hb q), fun x hx => ?_⟩
    rcases List.mem_cons.mp hx with z | z
    · subst z
      exact k2 _ _ he.1 he.2 (uni_eq g he.1 he.2)
    · exact e2 x z
theorem edged_sound {ts : List Tm} {es0 : List (Nat × Nat)} {R : Nat → Nat → Prop} (C : Congr ts es0 R) {n : Nat} : ∀ (es : List (Nat × Nat)) (ls : List Nat), Good n ls → (∀ e ∈ es, e.1 < n ∧ e.2 < n) → (∀ e ∈ es, e ∈ es0) → Sound n R ls → Sound n R (edged ls es)
  | [], _, _, _, _, s => s
  | e :: es, ls, g, h, m, s => by
    have he := h e List.mem_cons_self
    exact edged_sound C es _ (g.uni he.1 he.2) (fun x hx => h x (List.mem_cons_of_mem _ hx)) (fun x hx => m x (List.mem_cons_of_mem _ hx)) (s.uni C g he.1 he.2 (C.edge e (m e List.mem_cons_self)))

/-! ### one walk over the terms -/
theorem lkT_app (s : List (Tm × Nat)) (m m' : Tm) (k : Nat) : lkT (s ++ [(m', k)]) m = (lkT s m).or (if m' = m then some k else none) := by
  unfold lkT
  rw [List.find?_append]
  cases h : s.find? fun p => decide (p.1 = m) with
  | some p => simp
  | none =>
    by_cases e : m' = m
    · simp [e]
    · simp [e]
theorem lkT_mem {s : List (Tm × Nat)} {m : Tm} {k : Nat} (h : lkT s m = some k) : (m, k) ∈ s := by
  unfold lkT at h
  obtain ⟨p, hp, e⟩ := Option.map_eq_some_iff.mp h
  have h1 := List.find?_some hp
  have h2 := List.mem_of_find?_eq_some hp
  have e1 : p.1 = m := by simpa using h1
  have : p = (m, k) := by rw [← e1, ← e]
  rw [← this]; exact h2
structure Pass (ts : List Tm) (ls0 : List Nat) (k : Nat) (st : US) : Prop where
  good : Good ts.length st.ls
  seen : ∀ p ∈ st.seen, p.2 < k
  keep : ∀ a b, a < ts.length → b < ts.length → ls0.getD a 0 = ls0.getD b 0 → st.ls.getD a 0 = st.ls.getD b 0
  yes : st.met = true → st.ls.sum < ls0.sum
  no : st.met = false → st.ls = ls0 ∧ (∀ p ∈ st.seen, ∃ t, ts[p.2]? = some t ∧ p.1 = mk ls0 t) ∧ ∀ i t, i < k → ts[i]? = some t → ∃ s, lkT st.seen (mk ls0 t) = some s ∧ ls0.getD s 0 = ls0.getD i 0
  sound : ∀ (es : List (Nat × Nat)) (R : Nat → Nat → Prop), Congr ts es R → Sound ts.length R ls0 → Sound ts.length R st.ls ∧ ∀ p ∈ st.seen, ∃ ls' t, Sound ts.length R ls' ∧ ts[p.2]? = some t ∧ p.1 = mk ls' t
theorem mk_cong {ts : List Tm} {es : List (Nat × Nat)} {R : Nat → Nat → Prop} (C : Congr ts es R) (wf : WfT ts) {l1 l2 : List Nat} (s1 : Sound ts.length R l1) (s2 : Sound ts.length R l2) {i j : Nat} {t u : Tm} (hi : ts[i]? = some t) (hj : ts[j]? = some u) (e : mk l1 t = mk l2 u) : R i j := by
  have li := (List.getElem?_eq_some_iff.mp hi).1
  have lj := (List.getElem?_eq_some_iff.mp hj).1
  cases t with
  | num n => cases u with
    | num m => simp only [mk] at e; exact C.same i j li lj (by rw [hi, hj, e])
    | name y => simp [mk] at e
    | of v js => simp [mk] at e
  | name x => cases u with
    | num m => simp [mk] at e
    | name y => simp only [mk] at e; exact C.same i j li lj (by rw [hi, hj, e])
    | of v js => simp [mk] at e
  | of w ks => cases u with
    | num m => simp [mk] at e
    | name y => simp [mk] at e
    | of v js =>
      simp only [mk, Tm.of.injEq] at e
      obtain ⟨e1, e2⟩ := e
      subst e1
      have el : ks.length = js.length := by simpa using congrArg List.length e2
      refine C.cong i j w ks js hi hj el fun k h h' => ?_
      have q : (ks.map fun k => l1.getD k 0)[k]? = (js.map fun k => l2.getD k 0)[k]? := by rw [e2]
      rw [List.getElem?_map, List.getElem?_map, List.getElem?_eq_getElem h, List.getElem?_eq_getElem h'] at q
      have q' : l1.getD ks[k] 0 = l2.getD js[k] 0 := by simpa using q
      have a1 := s1 ks[k] (Nat.lt_trans (wf i w ks hi _ (List.getElem_mem h)) li)
      have a2 := s2 js[k] (Nat.lt_trans (wf j w js hj _ (List.getElem_mem h')) lj)
      rw [q'] at a1
      exact C.trans _ _ _ a1 (C.symm _ _ a2)
theorem getD_of {ts : List Tm} {k : Nat} {t : Tm} (h : ts[k]? = some t) : ts.getD k (.num 0) = t := by simp [List.getD, h]
theorem pass_ok {ts : List Tm} (wf : WfT ts) {ls0 : List Nat} (g0 : Good ts.length ls0) : ∀ k, k ≤ ts.length → Pass ts ls0 k (ulPass ts ls0 k)
  | 0, _ => ⟨g0, (fun p h => by cases h), (fun _ _ _ _ h => h), (fun h => by cases h), (fun _ => ⟨rfl, (fun p h => by cases h), (fun i t h => by omega)⟩), fun es R C s => ⟨s, fun p h => by cases h⟩⟩
  | k + 1, hk => by
    have ih := pass_ok wf g0 k (by omega)
    show Pass ts ls0 (k + 1) (ulStep ts (ulPass ts ls0 k) k)
    generalize ulPass ts ls0 k = st at ih
    obtain ⟨t, ht⟩ : ∃ t, ts[k]? = some t := ⟨ts[k]'(by omega), by simp [show k < ts.length by omega]⟩
    have hkl : k < ts.length := by omega
    unfold ulStep
    rw [getD_of ht]
    cases hl : lkT st.seen (mk st.ls t) with
    | none =>
      simp only
      refine ⟨ih.good, fun p hp => ?_, ih.keep, ih.yes, fun hm => ?_, fun es R C s => ?_⟩
      · rcases List.mem_append.mp hp with h | h
        · have := ih.seen p h; omega
        · rw [List.mem_singleton.mp h]; exact Nat.lt_succ_self k
      · obtain ⟨h1, h2, h3⟩ := ih.no hm
        refine ⟨h1, fun p hp => ?_, fun i u hi hu => ?_⟩
        · rcases List.mem_append.mp hp with h | h
          · exact h2 p h
          · rw [List.mem_singleton.mp h]; exact ⟨t, ht, by rw [h1]⟩
        · rw [lkT_app]
          by_cases z : i = k
          · subst z
            rw [ht] at hu; cases hu
            rw [h1] at hl
            rw [hl, h1, if_pos rfl]
            exact ⟨i, rfl, rfl⟩
          · obtain ⟨s, q1, q2⟩ := h3 i u (by omega) hu
            exact ⟨s, by rw [q1]; rfl, q2⟩
      · obtain ⟨q1, q2⟩ := ih.sound es R C s
        refine ⟨q1, fun p hp => ?_⟩
        rcases List.mem_append.mp hp with h | h
        · exact q2 p h
        · rw [List.mem_singleton.mp h]; exact ⟨st.ls, t, q1, ht, rfl⟩
    | some s =>
      simp only
      have hs : s < k := ih.seen _ (lkT_mem hl)
      have hsl : s < ts.length := by omega
      by_cases e : st.ls.getD s 0 = st.ls.getD k 0
      · rw [if_pos e]
        refine ⟨ih.good, fun p hp => Nat.lt_succ_of_lt (ih.seen p hp), ih.keep, ih.yes, fun hm => ?_, ih.sound⟩
        obtain ⟨h1, h2, h3⟩ := ih.no hm
        refine ⟨h1, h2, fun i u hi hu => ?_⟩
        by_cases z : i = k
        · subst z
          rw [ht] at hu; cases hu
          rw [h1] at hl e
          exact ⟨s, hl, e⟩
        · exact h3 i u (by omega) hu
      · rw [if_neg e]
        refine ⟨ih.good.uni hsl hkl, fun p hp => Nat.lt_succ_of_lt (ih.seen p hp), fun a b ha hb q => uni_keep ih.good ha hb (ih.keep a b ha hb q), fun _ => ?_, (fun h => by cases h), fun es R C z => ?_⟩
        · have h1 := uni_sum ih.good hsl hkl e
          cases hm : st.met with
          | true => exact Nat.lt_trans h1 (ih.yes hm)
          | false => rw [← (ih.no hm).1]; exact h1
        · obtain ⟨q1, q2⟩ := ih.sound es R C z
          obtain ⟨ls', u, r1, r2, r3⟩ := q2 _ (lkT_mem hl)
          exact ⟨q1.uni C ih.good hsl hkl (mk_cong C wf r1 q1 r2 ht r3.symm), q2⟩
/-- what closed tells -/
structure Closed (ts : List Tm) (es : List (Nat × Nat)) (ls : List Nat) : Prop where
  good : Good ts.length ls
  edge : ∀ e ∈ es, ls.getD e.1 0 = ls.getD e.2 0
  like : ∀ i j t u, ts[i]? = some t → ts[j]? = some u → mk ls t = mk ls u → ls.getD i 0 = ls.getD j 0
  least : ∀ R, Congr ts es R → Sound ts.length R ls
theorem loop_ok {ts : List Tm} (wf : WfT ts) {es : List (Nat × Nat)} (he : ∀ e ∈ es, e.1 < ts.length ∧ e.2 < ts.length) : ∀ (f : Nat) (ls : List Nat), ls.sum < f → Good ts.length ls → (∀ e ∈ es, ls.getD e.1 0 = ls.getD e.2 0) → (∀ R, Congr ts es R → Sound ts.length R ls) → Closed ts es (ulLoop ts f ls)
  | 0, ls, h, _, _, _ => by omega
  | f + 1, ls, h, g, hE, hS => by
    have P := pass_ok wf g ts.length (Nat.le_refl _)
    unfold ulLoop
    by_cases m : (ulAll ts ls).met = true
    · rw [if_pos m]
      refine loop_ok wf he f _ (by have := P.yes m; unfold ulAll; omega) P.good (fun e hx => P.keep _ _ (he e hx).1 (he e hx).2 (hE e hx)) fun R C => (P.sound es R C (hS R C)).1
    · rw [if_neg m]
      have m' : (ulAll ts ls).met = false := by simpa using m
      obtain ⟨h1, h2, h3⟩ := P.no m'
      have e1 : (ulAll ts ls).ls = ls := h1
      rw [e1]
      refine ⟨g, hE, fun i j t u hi hj e => ?_, hS⟩
      obtain ⟨s, q1, q2⟩ := h3 i t (List.getElem?_eq_some_iff.mp hi).1 hi
      obtain ⟨s', q1', q2'⟩ := h3 j u (List.getElem?_eq_some_iff.mp hj).1 hj
      rw [e, q1'] at q1
      cases q1
      rw [← q2, ← q2']
theorem closed_ok {ts : List Tm} (wf : WfT ts) {es : List (Nat × Nat)} (he : ∀ e ∈ es, e.1 < ts.length ∧ e.2 < ts.length) : Closed ts es (closedM ts es) := by
  obtain ⟨g, _, e⟩ := edged_ok es _ (Good.range ts.length) he
  refine loop_ok wf he _ _ (Nat.lt_succ_self _) g e fun R C => edged_sound C es _ (Good.range _) he (fun _ h => h) fun k hk => ?_
  rw [getD_range hk]; exact C.refl k
/-- leads that make a sameness -/
theorem Closed.congr {ts : List Tm} {es : List (Nat × Nat)} {ls : List Nat} (c : Closed ts es ls) : Congr ts es fun a b => ls.getD a 0 = ls.getD b 0 where
  refl := fun _ => rfl
  symm := fun _ _ h => h.symm
  trans := fun _ _ _ h h' => h.trans h'
  edge := c.edge
  same := fun i j hi hj e => by
    have h1 : ts[i]? = some ts[i] := by simp [hi]
    exact c.like i j _ _ h1 (by rw [← e]; exact h1) rfl
  cong := fun i j w ks js hi hj hl h => by
    have e : (ks.map fun k => ls.getD k 0) = (js.map fun k => ls.getD k 0) := by
      refine List.ext_getElem (by simpa using hl) fun k h1 h2 => ?_
      rw [List.getElem_map, List.getElem_map]
      exact h k (by simpa using h1) (by simpa using h2)
    exact c.like i j (.of w ks) (.of w js) hi hj (show Tm.of w (ks.map fun k => ls.getD k 0) = Tm.of w (js.map fun k => ls.getD k 0) by rw [e])
/-- there is one alone -/
theorem Closed.one {ts : List Tm} {es : List (Nat × Nat)} {a b : List Nat} (ca : Closed ts es a) (cb : Closed ts es b) : a = b := by
  have la := ca.good.len
  have lb := cb.good.len
  refine List.ext_getElem (la.trans lb.symm) fun k h1 h2 => ?_
  have hk : k < ts.length := by rw [← la]; exact h1
  have ea : a.getD k 0 = a[k] := by simp [List.getD, h1]
  have eb : b.getD k 0 = b[k] := by simp [List.getD, h2]
  rw [← ea, ← eb]
  have q1 := ca.least _ cb.congr k hk
  have q2 := cb.least _ ca.congr k hk
  have l1 := cb.good.le (a.getD k 0) (ca.good.lt hk)
  have l2 := ca.good.le (b.getD k 0) (cb.good.lt hk)
  omega
end SW
namespace SW
open PySem PySem.Spec L2 AL
/-! ### as values -/
def nW (ks : List Nat) : List W := ks.map fun (k : Nat) => W.int k
theorem nW_length (ks : List Nat) : (nW ks).length = ks.length := by simp [nW]
theorem nW_get {ks : List Nat} {i k : Nat} (h : ks[i]? = some k) : (nW ks)[i]? = some (.int k) := by simp [nW, h]
theorem nW_getD {ks : List Nat} {i : Nat} (h : i < ks.length) : (nW ks)[i]? = some (.int (ks.getD i 0 : Nat)) := by simp [nW, List.getD, h]
theorem atI_of {xs : List W} {i : Nat} {w : W} (h : xs[i]? = some w) : atI xs (i : Int) = some w := atI_nat h
theorem nW_at {ks : List Nat} {i : Nat} (h : i < ks.length) : atI (nW ks) (i : Int) = some (.int (ks.getD i 0 : Nat)) := atI_of (nW_getD h)
theorem nW_set {ks : List Nat} {i k : Nat} : (nW ks).set i (.int k) = nW (ks.set i k) := by simp [nW, List.map_set]
def Tm.W : Tm → AL.W
  | .num n => .tup [.str "num", .int n]
  | .name x => .tup [.str "name", .str x]
  | .of w ks => .tup [.str "of", .str w, .tup (nW ks)]
def arms : Tm → List Nat
  | .of _ ks => ks
  | _ => []
def tW (ts : List Tm) : List AL.W := ts.map Tm.W
theorem tW_length (ts : List Tm) : (tW ts).length = ts.length := by simp [tW]
theorem tW_get {ts : List Tm} {i : Nat} {t : Tm} (h : ts[i]? = some t) : (tW ts)[i]? = some t.W := by simp [tW, h]
theorem tW_at {ts : List Tm} {i : Nat} {t : Tm} (h : ts[i]? = some t) : atI (tW ts) (i : Int) = some t.W := atI_of (tW_get h)
theorem ixN_nat {n j : Nat} (h : j < n) : ixN n (j : Int) = some j := by
  unfold ixN
  rw [if_pos (Int.natCast_nonneg j), if_pos (by omega)]
  rfl
/-! ### mark -/
abbrev sMark : Stmt := top 22
theorem sc_mark : FnScope ["term", "leads", "arm"] ["term", "leads"] (defScope sMark) := ⟨rfl, rfl, rfl, by decide +kernel, rfl, by decide +kernel, by decide +kernel⟩
def spMark : ASp := fun ws G K _ => ∃ (t : Tm) (l : W) (ls : List Nat), ws = [t.W, l] ∧ LsA G l (nW ls) ∧ (∀ k ∈ arms t, k < ls.length) ∧ (arms t).length ≤ 4 ∧ K (mk ls t).W G
section
variable {P : Program} {w : World} {K : PySem.W.Frag} {mg : Str → Option Value} {base : Heap}
theorem ok_mark {f : Addr} {fd : FuncData} (F : Fun K "mark" "mark" sMark f fd) (B : Bl mg) : FnOk P w K mg base CX0 1 f fd ["term", "leads"] (low ⟨P, w, K⟩ spMark) := by
  refine fnA_of F sc_mark (fun ws G Kc KE ⟨t, a, ls, e, _⟩ => by rw [e]; rfl) fun cdv A outer s H E ws G Kc KE hr ⟨t, a, ls, e, hL, hk, h4, k⟩ => ?_
  subst e
  refine s_cons (s_if (b_ne (u64 hr) (q_ix (qv 0 rfl (q_int ?_)))))
  cases t with
  | num n => exact q_str (ifB_T (by decide +kernel) (s_cons (s_ret (qv 0 rfl ⟨G, Sub.refl, k⟩))))
  | name x => exact q_str (ifB_T (by decide +kernel) (s_cons (s_ret (qv 0 rfl ⟨G, Sub.refl, k⟩))))
  | of wd ks =>
    refine q_str (ifB_F (by decide +kernel) ?_)
    refine s_nil ?_
    refine s_cons (s_ret (q_tup (a_cons (q_str (a_cons (q_ix (qv 0 rfl (q_int ?_))))))))
    refine a_cons (q_tuple B.tuple (a_cons (q_lc sc_mark.nd (blkOk_by (N := ["term", "leads", "arm"]) (sc := defScope sMark) (own := [("arm", 2)]) (by decide +kernel)) (i_tup (q_ix (qv 0 rfl (q_int ?_)))))))
    refine lk_mapZ (zs := ks) (fun (k : Nat) => W.int k) (fun k => W.int (ls.getD k 0 : Nat)) sc_mark.nd (Nat.le_trans h4 (by decide)) (fun _ _ _ => trivial) (fun z hz D ws hD s0 H0 C cl fp => ?_) (fun D hD => ?_)
    · refine q_ix (qv 1 rfl (qv 2 rfl ?_))
      exact fIx_ls (hL.new hD) (nW_at (hk z hz)) ⟨rfl, rfl⟩
    · refine a_nil ⟨_, aup_same, ?_⟩
      refine a_nil ⟨G, Sub.new hD, ?_⟩
      have e : ks.map (fun k => W.int (ls.getD k 0 : Nat)) = nW (ks.map fun k => ls.getD k 0) := by simp [nW]
      rw [e]
      exact k
/-! ### unite -/
abbrev sUnite : Stmt := top 23
theorem sc_unite : FnScope ["leads", "one", "other", "low", "high", "k"] ["leads", "one", "other"] (defScope sUnite) := ⟨rfl, rfl, rfl, by decide +kernel, rfl, by decide +kernel, by decide +kernel⟩
def spUnite : ASp := fun ws G K _ => ∃ (a : Addr) (ls : List Nat) (i j : Nat), ws = [.ref a, .int i, .int j] ∧ G a = some (.lst (nW ls)) ∧ i < ls.length ∧ j < ls.length ∧ ls.length ≤ 1000 ∧ K .non (aup G a (.lst (nW (uni ls i j))))
theorem min_cast (i j : Nat) : (if (j : Int) < (i : Int) then (j : Int) else (i : Int)) = ((min i j : Nat) : Int) := by split <;> omega
theorem max_cast (i j : Nat) : (if (j : Int) > (i : Int) then (j : Int) else (i : Int)) = ((max i j : Nat) : Int) := by split <;> omega
theorem aup_id {G : AH} {a : Addr} {o : AO} (h : G a = some o) : aup G a o = G := by
  funext b
  unfold aup
  split
  · rename_i e; rw [e, h]
  · rfl
/-- the first k have changed -/
def partU (ls : List Nat) (i j k : Nat) : List Nat := (ls.take k).map (fun x => if x = max (ls.getD i 0) (ls.getD j 0) then min (ls.getD i 0) (ls.getD j 0) else x) ++ ls.drop k
theorem partU_zero (ls : List Nat) (i j : Nat) : partU ls i j 0 = ls := by simp [partU]
theorem partU_end {ls : List Nat} {i j : Nat} (e : ¬ ls.getD i 0 = ls.getD j 0) : partU ls i j ls.length = uni ls i j := by
  unfold partU uni
  rw [if_neg e, List.take_length, List.drop_length, List.append_nil]
theorem partU_len (ls : List Nat) (i j k : Nat) : (partU ls i j k).length = ls.length := by
  unfold partU
  rw [List.length_append, List.length_map, List.length_take, List.length_drop]
  omega
theorem partU_at {ls : List Nat} {i j k : Nat} (h : k < ls.length) : (partU ls i j k).getD k 0 = ls.getD k 0 := by
  unfold partU
  have e : ((ls.take k).map (fun x => if x = max (ls.getD i 0) (ls.getD j 0) then min (ls.getD i 0) (ls.getD j 0) else x)).length = k := by
    rw [List.length_map, List.length_take]; omega
  rw [List.getD, List.getElem?_append_right (by omega), e, Nat.sub_self, List.getElem?_drop, Nat.add_zero]
  rfl
theorem partU_succ {ls : List Nat} {i j k : Nat} (h : k < ls.length) : partU ls i j (k + 1) = (partU ls i j k).set k (if ls.getD k 0 = max (ls.getD i 0) (ls.getD j 0) then min (ls.getD i 0) (ls.getD j 0) else ls.getD k 0) := by
  unfold partU
  have e : ((ls.take k).map (fun x => if x = max (ls.getD i 0) (ls.getD j 0) then min (ls.getD i 0) (ls.getD j 0) else x)).length = k := by
    rw [List.length_map, List.length_take]; omega
  have d : ls.drop k = ls.getD k 0 :: ls.drop (k + 1) := by
    rw [List.drop_eq_getElem_cons h]
    congr 1
    simp [List.getD, h]
  have g : ls[k]? = some (ls.getD k 0) := by simp [List.getD, h]
  rw [List.set_append_right _ _ (by omega), e, Nat.sub_self, d, List.set_cons_zero, List.take_succ, g, Option.toList_some, List.map_append, List.append_assoc]
  rfl
theorem set_same {ls : List Nat} {k : Nat} (h : k < ls.length) : ls.set k (ls.getD k 0) = ls := by
  refine List.ext_getElem (by simp) fun m h1 h2 => ?_
  rw [List.getElem_set]
  split
  · rename_i e; subst e; simp [List.getD, h]
  · rfl
theorem ok_unite {f : Addr} {fd : FuncData} (F : Fun K "unite" "unite" sUnite f fd) (B : Bl mg) : FnOk P w K mg base CX0 1 f fd ["leads", "one", "other"] (low ⟨P, w, K⟩ spUnite) := by
  refine fnA_of F sc_unite (fun ws G Kc KE ⟨a, ls, i, j, e, _⟩ => by rw [e]; rfl) fun cdv A outer s H E ws G Kc KE hr ⟨a, ls, i, j, e, hL, hi, hj, hn, k⟩ => ?_
  subst e
  refine s_cons (s_set (i := 3) sc_unite.nd (q_min2 B.min (a_cons (q_ix (qv 0 rfl (qv 1 rfl ⟨_, _, hL, nW_at hi, ?_⟩))))))
  refine a_cons (q_ix (qv 0 rfl (qv 2 rfl ⟨_, _, hL, nW_at hj, ?_⟩)))
  refine a_nil ?_
  refine SQ.st [some (.ref a), some (.int i), some (.int j), some (.int (min (ls.getD i 0) (ls.getD j 0) : Nat)), none, none] (by rw [← min_cast]; rfl) ?_
  refine s_cons (s_set (i := 4) sc_unite.nd (q_max2 B.max (a_cons (q_ix (qv 0 rfl (qv 1 rfl ⟨_, _, hL, nW_at hi, ?_⟩))))))
  refine a_cons (q_ix (qv 0 rfl (qv 2 rfl ⟨_, _, hL, nW_at hj, ?_⟩)))
  refine a_nil ?_
  refine SQ.st [some (.ref a), some (.int i), some (.int j), some (.int (min (ls.getD i 0) (ls.getD j 0) : Nat)), some (.int (max (ls.getD i 0) (ls.getD j 0) : Nat)), none] (by rw [← max_cast]; rfl) ?_
  refine s_cons (s_if (b_eq (u64 hr) (qv 3 rfl (qv 4 rfl ?_))))
  refine ifB_dec (fun e => ?_) (fun e => ?_)
  · refine s_cons (s_retN ⟨_, Sub.refl, ?_⟩)
    have e' : ls.getD i 0 = ls.getD j 0 := by omega
    have q : uni ls i j = ls := by unfold uni; rw [if_pos e']
    rw [q, aup_id hL] at k
    exact k
  · refine s_nil ?_
    have e' : ¬ ls.getD i 0 = ls.getD j 0 := fun z => e (by rw [z, Nat.min_self, Nat.max_self])
    refine s_cons (s_for PassesOwn.never rfl (i_range1 rfl B.range (q_len B.len (a_cons (qv 0 rfl (a_nil ⟨_, hL, ?_⟩)))) rfl))
    have n1 : ((nW ls).length : Int) = (ls.length : Int) := by rw [nW_length]
    refine ⟨by omega, by rw [n1]; omega, fun k ρ' G' => ∃ v, ρ' = [some (.ref a), some (.int i), some (.int j), some (.int (min (ls.getD i 0) (ls.getD j 0) : Nat)), some (.int (max (ls.getD i 0) (ls.getD j 0) : Nat)), v] ∧ G' = aup G a (.lst (nW (partU ls i j k))), ⟨none, rfl, ?_⟩, fun _ _ _ _ _ => trivial, fun m x ρ' G' hx ⟨v, e1, e2⟩ => ?_, fun ρ' G' ⟨v, e1, e2⟩ => ?_⟩
    · rw [partU_zero, aup_id hL]
    · obtain ⟨hm, rfl⟩ := rng0_item hx
      have hm : m < ls.length := by rw [nW_length] at hm; simpa using hm
      subst e1 e2
      refine g_name (i := 5) sc_unite.nd ?_
      have hm2 : m < (partU ls i j m).length := by rw [partU_len]; exact hm
      refine s_cons (s_if (b_eq (u64 hr) (q_ix (qv 0 rfl (qv 5 rfl ⟨_, _, aup_same, nW_at hm2, ?_⟩)))))
      refine qv 4 rfl ?_
      refine ifB_dec (fun z => ?_) (fun z => ?_)
      · rw [partU_at hm] at z
        refine s_cons (s_asg (qv 3 rfl (g_ix (qv 0 rfl (qv 5 rfl ⟨_, _, aup_same, by rw [nW_length, partU_len]; exact ixN_nat hm, ?_⟩)))))
        refine s_nil (s_nil ⟨_, rfl, ?_⟩)
        rw [aup_aup, nW_set, partU_succ hm, if_pos (by omega)]
      · rw [partU_at hm] at z
        refine s_nil (s_nil ⟨_, rfl, ?_⟩)
        rw [partU_succ hm, if_neg (by omega)]
        rw [← partU_at (i := i) (j := j) hm, set_same hm2]
    · refine s_nil ⟨G', Sub.refl, ?_⟩
      have : ((nW ls).length : Int).toNat = ls.length := by rw [nW_length]; simp
      rw [rngW_length, this] at e2
      rw [e2, partU_end e']
      exact k

/-! ### unite_like -/
abbrev sUl : Stmt := top 24
theorem sc_ul : FnScope ["terms", "leads", "seen", "met", "k", "own"] ["terms", "leads"] (defScope sUl) := ⟨rfl, rfl, rfl, by decide +kernel, rfl, by decide +kernel, by decide +kernel⟩
/-- the terms that are handed in: each with at most four arms, each arm ahead, at most 400 of them -/
structure TsOk (ts : List Tm) : Prop where
  wf : WfT ts
  four : ∀ (i : Nat) (w : Str) (ks : List Nat), ts[i]? = some (Tm.of w ks) → ks.length ≤ 4
  many : ts.length ≤ 400
theorem _root_.AL.LsA.offs {G G' : AH} {w : AL.W} {xs : List AL.W} {l : List Addr} (h : LsA G w xs) (o : Offs l G G') (n : ∀ q ∈ l, w ≠ .ref q) : LsA G' w xs := by
  cases w with
  | lst ys => exact h
  | ref a => exact (o a fun hm => n a hm rfl).trans h
  | _ => exact h.elim
def spUl : ASp := fun ws G K _ => ∃ (b : W) (a : Addr) (ts : List Tm) (ls : List Nat), ws = [b, .ref a] ∧ b ≠ .ref a ∧ LsA G b (tW ts) ∧ G a = some (.lst (nW ls)) ∧ Good ts.length ls ∧ TsOk ts ∧ K (.bl (ulAll ts ls).met) (aup G a (.lst (nW (ulAll ts ls).ls)))
end
theorem nW_inj : ∀ {ks js : List Nat}, nW ks = nW js → ks = js
  | [], [], _ => rfl
  | k :: ks, j :: js, h => by
    simp only [nW, List.map_cons, List.cons.injEq, W.int.injEq] at h
    rw [nW_inj (ks := ks) (js := js) h.2, Int.ofNat_inj.mp h.1]
  | [], _ :: _, h => by simp [nW] at h
  | _ :: _, [], h => by simp [nW] at h
theorem strs_ne : ¬ (Str.ofString "num") = (Str.ofString "name") ∧ ¬ (Str.ofString "num") = (Str.ofString "of") ∧ ¬ (Str.ofString "name") = (Str.ofString "of") := by decide +kernel
theorem Tm.W_inj {t u : Tm} (h : t.W = u.W) : t = u := by
  obtain ⟨n1, n2, n3⟩ := strs_ne
  cases t <;> cases u <;> simp only [Tm.W, W.tup.injEq, List.cons.injEq, W.str.injEq, W.int.injEq, and_true, List.nil_eq, reduceCtorEq, and_false, false_and] at h
  · rw [h.2]
  · rw [h.2]
  · rw [h.2.1, nW_inj h.2.2]
theorem kbls_nW : ∀ ks : List Nat, kbls (nW ks) = true
  | [] => rfl
  | k :: ks => by show (true && kbls (nW ks)) = true; rw [kbls_nW ks]; rfl
theorem depth_nW : ∀ ks : List Nat, NestedKey.depthAll (nks (nW ks)) = 0
  | [] => rfl
  | k :: ks => by show max 0 (NestedKey.depthAll (nks (nW ks))) = 0; rw [depth_nW ks]; rfl
theorem keyOk_W (t : Tm) : keyOk t.W = true := by
  cases t with
  | num n => rfl
  | name x => rfl
  | of w ks =>
    show ((true && (true && (kbls (nW ks) && true))) && Nat.ble (max 0 (max 0 (max (NestedKey.depthAll (nks (nW ks)) + 1) 0))) 7) = true
    rw [kbls_nW, depth_nW]; rfl
def seenW (s : List (Tm × Nat)) : List (W × W) := s.map fun p => (p.1.W, .int (p.2 : Nat))
theorem lk_seen (s : List (Tm × Nat)) (m : Tm) : lk (seenW s) m.W = (lkT s m).map fun (k : Nat) => W.int k := by
  induction s with
  | nil => rfl
  | cons p s ih =>
    show lk ((p.1.W, W.int p.2) :: seenW s) m.W = _
    rw [lk_cons, ih]
    unfold lkT
    by_cases e : p.1 = m
    · rw [if_pos (by rw [e])]; simp [e]
    · rw [if_neg (fun z => e (Tm.W_inj z))]; simp [e]
section
variable {P : Program} {w : World} {K : PySem.W.Frag} {mg : Str → Option Value} {base : Heap}
theorem mk_arms {ts : List Tm} (T : TsOk ts) {ls : List Nat} (g : ls.length = ts.length) {k : Nat} {t : Tm} (h : ts[k]? = some t) : (∀ j ∈ arms t, j < ls.length) ∧ (arms t).length ≤ 4 := by
  have lk := (List.getElem?_eq_some_iff.mp h).1
  cases t with
  | num n => exact ⟨(fun j hj => by cases hj), Nat.zero_le _⟩
  | name n => exact ⟨(fun j hj => by cases hj), Nat.zero_le _⟩
  | of w ks => exact ⟨(fun j hj => by have := T.wf k w ks h j hj; omega), T.four k w ks h⟩
theorem seen_le {ts : List Tm} {ls : List Nat} : ∀ k, (ulPass ts ls k).seen.length ≤ k
  | 0 => Nat.le_refl _
  | k + 1 => by
    have ih := seen_le (ts := ts) (ls := ls) k
    show (ulStep ts (ulPass ts ls k) k).seen.length ≤ k + 1
    unfold ulStep
    split
    · simp only [List.length_append, List.length_singleton]; omega
    · split
      · omega
      · simp only; omega
theorem ok_ul {f : Addr} {fd : FuncData} (F : Fun K "unite_like" "unite_like" sUl f fd) (B : Bl mg) (CM : Cal P w K mg base "mark" 1 ["term", "leads"] spMark) (CU : Cal P w K mg base "unite" 1 ["leads", "one", "other"] spUnite) : FnOk P w K mg base CX0 2 f fd ["terms", "leads"] (low ⟨P, w, K⟩ spUl) := by
  refine fnA_of F sc_ul (fun ws G Kc KE ⟨b, a, ts, ls, e, _⟩ => by rw [e]; rfl) fun cdv A outer s H E ws G Kc KE hr ⟨b, a, ts, ls, e, hba, hT, hL, good, T, k⟩ => ?_
  subst e
  refine s_cons (s_set (i := 2) sc_ul.nd (q_dnewN fun d hd => ?_))
  refine s_cons (s_set (i := 3) sc_ul.nd (q_bl ?_))
  have hda : d ≠ a := (ane_none hL hd).symm
  have hdb : b ≠ .ref d := hT.ne hd
  refine s_cons (s_for PassesOwn.never rfl (i_range1 rfl B.range (q_len B.len (a_cons (qv 0 rfl (a_nil (fLen_ls (hT.new hd) ?_))))) rfl))
  have n1 : ((tW ts).length : Int) = (ts.length : Int) := by rw [tW_length]
  have many := T.many
  refine ⟨by omega, by rw [n1]; omega, fun m ρ' G' => ∃ v v', ρ' = [some b, some (.ref a), some (.ref d), some (.bl (ulPass ts ls m).met), v, v'] ∧ G' a = some (.lst (nW (ulPass ts ls m).ls)) ∧ G' d = some (.dN (seenW (ulPass ts ls m).seen)) ∧ Offs [d, a] G G', ⟨none, none, rfl, aup_new hd hL, aup_same, Offs.new Offs.refl⟩, fun _ _ _ _ _ => trivial, fun m x ρ' G' hx ⟨v, v', e1, ga, gd, off⟩ => ?_, fun ρ' G' ⟨v, v', e1, ga, gd, off⟩ => ?_⟩
  · obtain ⟨hm, rfl⟩ := rng0_item hx
    have hm : m < ts.length := by rw [tW_length] at hm; simpa using hm
    obtain ⟨t, ht⟩ : ∃ t, ts[m]? = some t := ⟨ts[m], by simp [hm]⟩
    have PO := pass_ok T.wf good m (by omega)
    have hb : LsA G' b (tW ts) := hT.offs off fun q hq => by
      have : q = d ∨ q = a := by simpa using hq
      rcases this with e | e <;> rw [e]
      · exact hdb
      · exact hba
    subst e1
    refine g_name (i := 4) sc_ul.nd ?_
    obtain ⟨ar1, ar2⟩ := mk_arms T PO.good.len ht
    refine s_cons (s_set (i := 5) sc_ul.nd (q_cal CM hr (a_cons (q_ix (qv 0 rfl (qv 4 rfl (fIx_ls hb (tW_at ht) ?_)))))))
    refine a_cons (qv 1 rfl (a_nil ⟨t, .ref a, _, rfl, ga, ar1, ar2, ?_⟩))
    refine s_cons (s_if (b_dninN (u9 hr) (qv 5 rfl (qv 2 rfl ⟨_, gd, keyOk_W _, ?_⟩))))
    have step : ulPass ts ls (m + 1) = ulStep ts (ulPass ts ls m) m := rfl
    have SL := seen_le (ts := ts) (ls := ls) m
    generalize ulPass ts ls m = st at PO ga gd ar1 step SL ⊢
    rw [lk_seen]
    cases hl : lkT st.seen (mk st.ls t) with
    | none =>
      refine ifT ?_
      have step2 : ulStep ts st m = { st with seen := st.seen ++ [(mk st.ls t, m)] } := by unfold ulStep; rw [getD_of ht, hl]
      have hlen : (seenW st.seen).length < sizeLine := by
        have : (seenW st.seen).length ≤ 400 := by show (st.seen.map _).length ≤ 400; rw [List.length_map]; omega
        exact Nat.lt_of_le_of_lt this (by decide)
      refine s_cons (s_asg (qv 4 rfl (g_dputN (u9 hr) (qv 2 rfl (qv 5 rfl ⟨_, gd, keyOk_W _, hlen, ?_⟩)))))
      refine s_nil (s_nil ⟨some (.int m), some (mk st.ls t).W, ?_, ?_, ?_, ?_⟩)
      · rw [step, step2]; rfl
      · rw [step, step2]; exact aup_old hda.symm ga
      · rw [step, step2, aup_same, pk_new _ (by rw [lk_seen, hl]; rfl)]
        show _ = some (AO.dN (List.map _ (st.seen ++ [(mk st.ls t, m)])))
        rw [List.map_append]; rfl
      · exact off.put (by simp)
    | some z =>
      refine ifF ?_
      have hz : z < m := PO.seen _ (lkT_mem hl)
      have lenS : st.ls.length = ts.length := PO.good.len
      refine s_cons (s_if (b_ne (u64 hr) (q_ix (qv 1 rfl (q_dgetN (u9 hr) (qv 2 rfl (qv 5 rfl ⟨_, W.int z, gd, keyOk_W _, by rw [lk_seen, hl]; rfl, ?_⟩)))))))
      refine ⟨_, _, ga, nW_at (by omega), ?_⟩
      refine q_ix (qv 1 rfl (qv 4 rfl ⟨_, _, ga, nW_at (by omega), ?_⟩))
      refine ifB_ndec (fun e => ?_) (fun e => ?_)
      · have step2 : ulStep ts st m = { st with ls := uni st.ls z m, met := true } := by
          unfold ulStep
          rw [getD_of ht, hl]
          show (if _ then _ else _) = _
          rw [if_neg (by omega)]
        refine s_cons (s_expr (q_cal CU hr (a_cons (qv 1 rfl (a_cons (q_dgetN (u9 hr) (qv 2 rfl (qv 5 rfl ⟨_, W.int z, gd, keyOk_W _, by rw [lk_seen, hl]; rfl, ?_⟩))))))))
        refine a_cons (qv 4 rfl (a_nil ⟨a, _, z, m, rfl, ga, by omega, by omega, by omega, ?_⟩))
        refine s_cons (s_set (i := 3) sc_ul.nd (q_bl ?_))
        refine s_nil (s_nil (s_nil ⟨some (.int m), some (mk st.ls t).W, ?_, ?_, ?_, ?_⟩))
        · rw [step, step2]; rfl
        · rw [step, step2, aup_same]
        · rw [step, step2]; exact aup_old hda gd
        · exact off.put (by simp)
      · have step2 : ulStep ts st m = st := by
          unfold ulStep
          rw [getD_of ht, hl]
          show (if _ then _ else _) = _
          rw [if_pos (by omega)]
        refine s_nil (s_nil (s_nil ⟨some (.int m), some (mk st.ls t).W, ?_, ?_, ?_, off⟩))
        · rw [step, step2]; rfl
        · rw [step, step2]; exact ga
        · rw [step, step2]; exact gd
  · have n2 : (rngW 0 1 ((tW ts).length : Int).toNat).length = ts.length := by rw [rngW_length, tW_length]; simp
    rw [n2] at e1 ga gd
    subst e1
    refine s_cons (s_ret (qv 3 rfl ⟨_, off.sub1 ga (fun q hq hqa => ?_), k⟩))
    have : q = d := by simpa [hqa] using hq
    rw [this]; exact hd

/-! ### closed -/
abbrev sClosed : Stmt := top 25
theorem sc_closed : FnScope ["terms", "edges", "leads", "edge"] ["terms", "edges"] (defScope sClosed) := ⟨rfl, rfl, rfl, by decide +kernel, rfl, by decide +kernel, by decide +kernel⟩
/-- an edge: its ends, its weight, why -/
structure Ed where
  a : Nat
  b : Nat
  w : Int
  why : W
def Ed.W (e : Ed) : AL.W := .tup [.int e.a, .int e.b, .int e.w, e.why]
def eW (es : List Ed) : List AL.W := es.map Ed.W
def ends (es : List Ed) : List (Nat × Nat) := es.map fun e => (e.a, e.b)
def spClosed : ASp := fun ws G K _ => ∃ (b c : W) (ts : List Tm) (es : List Ed), ws = [b, c] ∧ LsA G b (tW ts) ∧ LsA G c (eW es) ∧ TsOk ts ∧ (∀ e ∈ es, e.a < ts.length ∧ e.b < ts.length) ∧ ∀ p, G p = none → K (.ref p) (aup G p (.lst (nW (closedM ts (ends es)))))
theorem ok_closed {f : Addr} {fd : FuncData} (F : Fun K "closed" "closed" sClosed f fd) (B : Bl mg) (CU : Cal P w K mg base "unite" 1 ["leads", "one", "other"] spUnite) (CL : Cal P w K mg base "unite_like" 2 ["terms", "leads"] spUl) : FnOk P w K mg base CX0 3 f fd ["terms", "edges"] (low ⟨P, w, K⟩ spClosed) := by
  refine fnA_of F sc_closed (fun ws G Kc KE ⟨b, c, ts, es, e, _⟩ => by rw [e]; rfl) fun cdv A outer s H E ws G Kc KE hr ⟨b, c, ts, es, e, hT, hE, T, he, k⟩ => ?_
  subst e
  have many := T.many
  have n1 : ((tW ts).length : Int) = (ts.length : Int) := by rw [tW_length]
  refine s_cons (s_set (i := 2) sc_closed.nd (q_lrg1 B.range B.list (q_len B.len (a_cons (qv 0 rfl (a_nil (fLen_ls hT ?_))))) rfl))
  refine ⟨RgOk.of_le (by omega) (by omega) (by omega) (by omega), fun a ha => ?_⟩
  have r0 : rngW 0 1 ((tW ts).length : Int).toNat = nW (List.range ts.length) := by
    rw [tW_length]
    simp [rngW, nW]
  rw [r0]
  have hab : b ≠ .ref a := hT.ne ha
  have ends_at : ∀ (m : Nat) (e : Ed), es[m]? = some e → ends (es.take (m + 1)) = ends (es.take m) ++ [(e.a, e.b)] := fun m e h => by
    unfold ends
    rw [List.take_succ, h, List.map_append]; rfl
  have good : ∀ m, Good ts.length (edged (List.range ts.length) (ends (es.take m))) := fun m => (edged_ok _ _ (Good.range _) fun e hx => by
    obtain ⟨x, hx', rfl⟩ := List.mem_map.mp hx
    exact he x (List.mem_of_mem_take hx')).1
  refine s_cons (s_for PassesOwn.never rfl (i_list (qv 1 rfl ⟨_, hE.new ha, ?_⟩)))
  refine ⟨fun m ρ' G' => ∃ v, ρ' = [some b, some c, some (.ref a), v] ∧ G' = aup G a (.lst (nW (edged (List.range ts.length) (ends (es.take m))))), ⟨none, rfl, rfl⟩, fun m ρ' G' _ ⟨v, e1, e2⟩ => ?_, fun m x ρ' G' hx ⟨v, e1, e2⟩ => ?_, fun ρ' G' ⟨v, e1, e2⟩ => ?_⟩
  · rw [e2]; exact hE.new ha
  · subst e1 e2
    obtain ⟨e, hm, rfl⟩ : ∃ e, es[m]? = some e ∧ e.W = x := by
      rw [eW, List.getElem?_map] at hx
      exact Option.map_eq_some_iff.mp hx
    have hee := he e (List.mem_of_getElem? hm)
    have gl := (good m).len
    refine g_name (i := 3) sc_closed.nd ?_
    refine s_cons (s_expr (q_cal CU (hr.mono (by decide)) (a_cons (qv 2 rfl (a_cons (q_ix (qv 3 rfl (q_int ?_))))))))
    refine a_cons (q_ix (qv 3 rfl (q_int ?_)))
    refine a_nil ⟨a, _, e.a, e.b, rfl, aup_same, by rw [gl]; exact hee.1, by rw [gl]; exact hee.2, by omega, ?_⟩
    refine s_nil ⟨_, rfl, ?_⟩
    rw [aup_aup, ends_at m e hm]
    unfold edged
    rw [List.foldl_append]
    rfl
  · rw [show (eW es).length = es.length from by simp [eW], List.take_length] at e2
    subst e1 e2
    have g0 : Good ts.length (edged (List.range ts.length) (ends es)) := by have := good es.length; rw [List.take_length] at this; exact this
    -- the loop: ulLoop with any fuel beyond the sum
    have key : closedM ts (ends es) = ulLoop ts ((edged (List.range ts.length) (ends es)).sum + 1) (edged (List.range ts.length) (ends es)) := rfl
    generalize edged (List.range ts.length) (ends es) = l0 at g0 key ⊢
    refine s_cons (s_while PassesOwn.never (fun ρ' G' => ∃ ls f, ρ' = [some b, some c, some (.ref a), v] ∧ G' = aup G a (.lst (nW ls)) ∧ Good ts.length ls ∧ ls.sum < f ∧ closedM ts (ends es) = ulLoop ts f ls) (fun ρ' G' => match G' a with | some (.lst ws) => (ws.map fun x => match x with | .int i => i.toNat | _ => 0).sum | _ => 0) ⟨l0, _, rfl, rfl, g0, Nat.lt_succ_self _, key⟩ ?_)
    rintro ρ' G' ⟨ls, f, rfl, rfl, gl, hf, kf⟩
    have gsum : ∀ ls' : List Nat, (match (aup G a (.lst (nW ls'))) a with | some (.lst ws) => (ws.map fun x => match x with | .int i => i.toNat | _ => 0).sum | _ => 0) = ls'.sum := fun ls' => by
      rw [aup_same]
      show ((nW ls').map _).sum = _
      rw [nW, List.map_map]
      congr 1
      conv => rhs; rw [← List.map_id ls']
      rfl
    refine b_val (q_cal CL hr (a_cons (qv 0 rfl (a_cons (qv 2 rfl (a_nil ⟨b, a, ts, ls, rfl, hab, hT.new ha, aup_same, gl, T, ?_⟩))))))
    have PO := pass_ok T.wf gl ts.length (Nat.le_refl _)
    cases f with
    | zero => omega
    | succ f =>
      unfold ulLoop at kf
      refine ifB_of (fun m => ?_) (fun m => ?_)
      · rw [if_pos m] at kf
        have hs : (ulAll ts ls).ls.sum < ls.sum := PO.yes m
        refine s_cons (s_pass (s_nil ⟨⟨(ulAll ts ls).ls, f, rfl, by rw [aup_aup], PO.good, by omega, kf⟩, ?_⟩))
        rw [aup_aup, gsum, gsum]
        exact hs
      · rw [if_neg (by rw [m]; exact Bool.false_ne_true)] at kf
        refine s_cons (s_ret (qv 2 rfl ⟨_, Sub.refl, ?_⟩))
        rw [aup_aup, ← kf]
        exact k a ha
end
end SW
namespace SW
open PySem PySem.Spec L2 AL
/-! ### prices, plain -/
def priceM (c : Nat) : List (Option Nat) → Option Nat
  | [] => some c
  | none :: _ => none
  | some v :: r => priceM (c + v) r
theorem priceM_some (c p : Nat) : ∀ xs : List (Option Nat), priceM c xs = some p ↔ ∃ vs : List Nat, xs = vs.map some ∧ p = c + vs.sum := by
  intro xs
  induction xs generalizing c with
  | nil => exact ⟨fun h => ⟨[], rfl, (Option.some.inj h).symm⟩, fun ⟨vs, h, e⟩ => by
      cases vs with
      | nil => rw [e]; rfl
      | cons v vs => cases h⟩
  | cons x xs ih =>
    cases x with
    | none =>
      constructor
      · intro h; cases h
      · rintro ⟨vs, h, _⟩
        cases vs with
        | nil => cases h
        | cons v vs => cases h
    | some v =>
      show priceM (c + v) xs = some p ↔ _
      rw [ih]
      constructor
      · rintro ⟨vs, h, e⟩; exact ⟨v :: vs, by rw [h]; rfl, by rw [e, List.sum_cons]; omega⟩
      · rintro ⟨vs, h, e⟩
        cases vs with
        | nil => cases h
        | cons u vs =>
          rw [List.map_cons, List.cons.injEq, Option.some.injEq] at h
          obtain ⟨rfl, h⟩ := h
          exact ⟨vs, h, by rw [e, List.sum_cons]; omega⟩
abbrev Lf (ls : List Nat) (k : Nat) : Nat := ls.getD k 0
abbrev tmAt (ts : List Tm) (k : Nat) : Tm := ts.getD k (.num 0)
/-- what a term costs by b -/
def prO (ts : List Tm) (ls : List Nat) (c : Tm → Nat) (b : Nat → Option Nat) (k : Nat) : Option Nat := priceM (c (tmAt ts k)) ((arms (tmAt ts k)).map fun a => b (Lf ls a))
def prN (ts : List Tm) (ls : List Nat) (c : Tm → Nat) (B : Nat → Nat) (k : Nat) : Nat := c (tmAt ts k) + ((arms (tmAt ts k)).map fun a => B (Lf ls a)).sum
structure BSt where
  b : Nat → Option Nat
  f : Bool
def updB {α : Type} (b : Nat → Option α) (j : Nat) (v : α) : Nat → Option α := fun i => if i = j then some v else b i
def bpStep (ts : List Tm) (ls : List Nat) (c : Tm → Nat) (st : BSt) (k : Nat) : BSt :=
  match prO ts ls c st.b k with
  | none => st
  | some p => match st.b (Lf ls k) with
    | none => ⟨updB st.b (Lf ls k) p, true⟩
    | some v => if p < v then ⟨updB st.b (Lf ls k) p, true⟩ else st
def bpPass (ts : List Tm) (ls : List Nat) (c : Tm → Nat) (b : Nat → Option Nat) : Nat → BSt
  | 0 => ⟨b, false⟩
  | k + 1 => bpStep ts ls c (bpPass ts ls c b k) k
/-- b' holds as much as b, or less -/
def LeB (b' b : Nat → Option Nat) : Prop := ∀ j v, b j = some v → ∃ v', b' j = some v' ∧ v' ≤ v
theorem LeB.refl {b : Nat → Option Nat} : LeB b b := fun _ v h => ⟨v, h, Nat.le_refl _⟩
theorem LeB.trans {a b c : Nat → Option Nat} (h : LeB a b) (h' : LeB b c) : LeB a c := fun j v e => by
  obtain ⟨v1, e1, l1⟩ := h' j v e
  obtain ⟨v2, e2, l2⟩ := h j v1 e1
  exact ⟨v2, e2, by omega⟩
theorem prO_le {ts : List Tm} {ls : List Nat} {c : Tm → Nat} {b' b : Nat → Option Nat} (h : LeB b' b) {k p : Nat} (e : prO ts ls c b k = some p) : ∃ p', prO ts ls c b' k = some p' ∧ p' ≤ p := by
  unfold prO at e ⊢
  generalize c (tmAt ts k) = c0 at e ⊢
  generalize arms (tmAt ts k) = as at e ⊢
  have : ∀ c1, c1 ≤ c0 → ∃ p', priceM c1 (as.map fun a => b' (Lf ls a)) = some p' ∧ p' ≤ p := by
    induction as generalizing c0 with
    | nil => intro c1 h1; exact ⟨c1, rfl, by have := Option.some.inj e; omega⟩
    | cons a as ih =>
      intro c1 h1
      rw [List.map_cons] at e ⊢
      cases hb : b (Lf ls a) with
      | none => rw [hb] at e; cases e
      | some v =>
        rw [hb] at e
        obtain ⟨v', h2, h3⟩ := h _ _ hb
        rw [h2]
        exact ih (c0 + v) e (c1 + v') (by omega)
  exact this c0 (Nat.le_refl _)
section
variable {ts : List Tm} {ls : List Nat} {c : Tm → Nat}
theorem updB_same {α : Type} {b : Nat → Option α} {j : Nat} {v : α} : updB b j v j = some v := by unfold updB; rw [if_pos rfl]
theorem updB_ne {α : Type} {b : Nat → Option α} {j i : Nat} {v : α} (h : i ≠ j) : updB b j v i = b i := by unfold updB; rw [if_neg h]
/-- what is held is borne by some term -/
def Sup (ts : List Tm) (ls : List Nat) (c : Tm → Nat) (b : Nat → Option Nat) : Prop := ∀ j v, b j = some v → ∃ k, k < ts.length ∧ Lf ls k = j ∧ ∃ p, p ≤ v ∧ prO ts ls c b k = some p
theorem step_le (st : BSt) (k : Nat) : LeB (bpStep ts ls c st k).b st.b := by
  unfold bpStep
  cases prO ts ls c st.b k with
  | none => exact LeB.refl
  | some p =>
    cases hb : st.b (Lf ls k) with
    | none =>
      intro j v e
      by_cases z : j = Lf ls k
      · rw [z, hb] at e; cases e
      · exact ⟨v, by show updB _ _ _ _ = _; rw [updB_ne z]; exact e, Nat.le_refl _⟩
    | some v =>
      show LeB (if p < v then _ else _ : BSt).b _
      split
      · intro j u e
        by_cases z : j = Lf ls k
        · subst z; rw [hb] at e; cases e; exact ⟨p, updB_same, by omega⟩
        · exact ⟨u, by show updB _ _ _ _ = _; rw [updB_ne z]; exact e, Nat.le_refl _⟩
      · exact LeB.refl
theorem sup_upd {b : Nat → Option Nat} {k p : Nat} (hk : k < ts.length) (s : Sup ts ls c b) (hp : prO ts ls c b k = some p) (le : LeB (updB b (Lf ls k) p) b) : Sup ts ls c (updB b (Lf ls k) p) := fun j v e => by
  by_cases z : j = Lf ls k
  · subst z
    rw [updB_same] at e; cases e
    obtain ⟨p', h1, h2⟩ := prO_le le hp
    exact ⟨k, hk, rfl, p', h2, h1⟩
  · rw [updB_ne z] at e
    obtain ⟨k', h1, h2, p0, h3, h4⟩ := s j v e
    obtain ⟨p', h5, h6⟩ := prO_le le h4
    exact ⟨k', h1, h2, p', by omega, h5⟩
theorem step_sup (st : BSt) {k : Nat} (hk : k < ts.length) (s : Sup ts ls c st.b) : Sup ts ls c (bpStep ts ls c st k).b := by
  have le := step_le (ts := ts) (ls := ls) (c := c) st k
  unfold bpStep at le ⊢
  cases hp : prO ts ls c st.b k with
  | none => rw [hp] at le; exact s
  | some p =>
    rw [hp] at le
    cases hb : st.b (Lf ls k) with
    | none => rw [hb] at le; exact sup_upd hk s hp le
    | some v =>
      rw [hb] at le
      show Sup ts ls c (if p < v then _ else _ : BSt).b
      have le : LeB (if p < v then _ else _ : BSt).b st.b := le
      split
      · rename_i h; rw [if_pos h] at le; exact sup_upd hk s hp le
      · exact s
theorem pass_le (b : Nat → Option Nat) : ∀ m, LeB (bpPass ts ls c b m).b b
  | 0 => LeB.refl
  | m + 1 => (step_le _ m).trans (pass_le b m)
theorem pass_sup {b : Nat → Option Nat} (s : Sup ts ls c b) : ∀ m, m ≤ ts.length → Sup ts ls c (bpPass ts ls c b m).b
  | 0, _ => s
  | m + 1, h => step_sup _ (by omega) (pass_sup s m (by omega))
theorem step_dom (st : BSt) (k j : Nat) (h : (bpStep ts ls c st k).b j ≠ none) : st.b j ≠ none ∨ j = Lf ls k := by
  unfold bpStep at h
  cases hp : prO ts ls c st.b k with
  | none => rw [hp] at h; exact .inl h
  | some p =>
    rw [hp] at h
    by_cases z : j = Lf ls k
    · exact .inr z
    · left
      cases hb : st.b (Lf ls k) with
      | none => rw [hb] at h; exact fun e => h (by show updB _ _ _ _ = _; rw [updB_ne z]; exact e)
      | some v =>
        rw [hb] at h
        have h : (if p < v then (⟨updB st.b (Lf ls k) p, true⟩ : BSt) else st).b j ≠ none := h
        split at h
        · exact fun e => h (by show updB _ _ _ _ = _; rw [updB_ne z]; exact e)
        · exact h
/-- behind a pass each class has a price -/
theorem pass_tot (wf : WfT ts) (b : Nat → Option Nat) : ∀ m, m ≤ ts.length → ∀ k, k < m → (bpPass ts ls c b m).b (Lf ls k) ≠ none
  | 0, _, _, h => absurd h (Nat.not_lt_zero _)
  | m + 1, hm, k, hk => by
    have ih := pass_tot wf b m (by omega)
    by_cases e : k < m
    · intro z
      cases h : (bpPass ts ls c b m).b (Lf ls k) with
      | none => exact ih k e h
      | some v =>
        obtain ⟨v', h', _⟩ := step_le (ts := ts) (ls := ls) (c := c) (bpPass ts ls c b m) m _ _ h
        have z : (bpStep ts ls c (bpPass ts ls c b m) m).b (Lf ls k) = none := z
        rw [z] at h'; cases h'
    · have e : k = m := by omega
      subst e
      show (bpStep ts ls c (bpPass ts ls c b k) k).b (Lf ls k) ≠ none
      have ar : ∃ p, prO ts ls c (bpPass ts ls c b k).b k = some p := by
        have hk' : ts[k]? = some (tmAt ts k) := by simp [tmAt, List.getD, show k < ts.length by omega]
        have hw : ∀ a ∈ arms (tmAt ts k), a < k := fun a ha => by
          cases ht : tmAt ts k with
          | num n => rw [ht] at ha; cases ha
          | name n => rw [ht] at ha; cases ha
          | of w ks => rw [ht] at hk' ha; exact wf k w ks hk' a ha
        unfold prO
        generalize c (tmAt ts k) = c0
        generalize arms (tmAt ts k) = as at hw
        induction as generalizing c0 with
        | nil => exact ⟨c0, rfl⟩
        | cons a as ih2 =>
          rw [List.map_cons]
          cases h : (bpPass ts ls c b k).b (Lf ls a) with
          | none => exact absurd h (ih a (hw a List.mem_cons_self))
          | some v => exact ih2 (c0 + v) fun a' ha' => hw a' (List.mem_cons_of_mem _ ha')
      obtain ⟨p, hp⟩ := ar
      unfold bpStep
      rw [hp]
      cases hb : (bpPass ts ls c b k).b (Lf ls k) with
      | none => show updB _ _ _ _ ≠ none; rw [updB_same]; exact fun z => by cases z
      | some v =>
        show (if p < v then _ else _ : BSt).b _ ≠ none
        split
        · show updB _ _ _ _ ≠ none; rw [updB_same]; exact fun z => by cases z
        · rw [hb]; exact fun z => by cases z
/-- a pass that lets nothing fall -/
theorem pass_no {b : Nat → Option Nat} : ∀ m, (bpPass ts ls c b m).f = false → (bpPass ts ls c b m).b = b ∧ ∀ k, k < m → ∀ p, prO ts ls c b k = some p → ∃ v, b (Lf ls k) = some v ∧ v ≤ p
  | 0, _ => ⟨rfl, fun _ h => absurd h (Nat.not_lt_zero _)⟩
  | m + 1, h => by
    have key : (bpPass ts ls c b m).f = false ∧ bpPass ts ls c b (m + 1) = bpPass ts ls c b m ∧ ∀ p, prO ts ls c (bpPass ts ls c b m).b m = some p → ∃ v, (bpPass ts ls c b m).b (Lf ls m) = some v ∧ v ≤ p := by
      have h : (bpStep ts ls c (bpPass ts ls c b m) m).f = false := h
      show _ ∧ bpStep ts ls c (bpPass ts ls c b m) m = _ ∧ _
      unfold bpStep at h ⊢
      cases hp : prO ts ls c (bpPass ts ls c b m).b m with
      | none => rw [hp] at h; exact ⟨h, rfl, fun _ z => by cases z⟩
      | some p =>
        rw [hp] at h
        cases hb : (bpPass ts ls c b m).b (Lf ls m) with
        | none => rw [hb] at h; cases h
        | some v =>
          rw [hb] at h
          have h : (if p < v then (⟨updB _ (Lf ls m) p, true⟩ : BSt) else bpPass ts ls c b m).f = false := h
          show _ ∧ (if p < v then (⟨updB _ (Lf ls m) p, true⟩ : BSt) else bpPass ts ls c b m) = _ ∧ _
          split at h
          · cases h
          · rename_i hl
            rw [if_neg hl]
            exact ⟨h, rfl, fun p' z => by cases z; exact ⟨v, rfl, by omega⟩⟩
    obtain ⟨h1, h2, h3⟩ := key
    obtain ⟨i1, i2⟩ := pass_no m h1
    rw [h2, i1]
    rw [i1] at h3
    refine ⟨rfl, fun k hk p hp => ?_⟩
    by_cases e : k < m
    · exact i2 k e p hp
    · have : k = m := by omega
      subst this
      exact h3 p hp
/-- the sum of what is held -/
def sumB (n : Nat) (ls : List Nat) (b : Nat → Option Nat) : Nat := ((List.range n).map fun k => (b (Lf ls k)).getD 0).sum
theorem sumB_le {n : Nat} {b' b : Nat → Option Nat} (le : LeB b' b) (tot : ∀ k, k < n → b (Lf ls k) ≠ none) : sumB n ls b' ≤ sumB n ls b := by
  unfold sumB
  have : ∀ l : List Nat, (∀ k ∈ l, k < n) → (l.map fun k => (b' (Lf ls k)).getD 0).sum ≤ (l.map fun k => (b (Lf ls k)).getD 0).sum := by
    intro l
    induction l with
    | nil => intro _; exact Nat.le_refl _
    | cons k l ih =>
      intro h
      have := ih fun x hx => h x (List.mem_cons_of_mem _ hx)
      rw [List.map_cons, List.map_cons, List.sum_cons, List.sum_cons]
      cases hb : b (Lf ls k) with
      | none => exact absurd hb (tot k (h k List.mem_cons_self))
      | some v =>
        obtain ⟨v', e, l'⟩ := le _ _ hb
        rw [e]
        show v' + _ ≤ v + _
        omega
  exact this _ fun k hk => List.mem_range.mp hk
theorem sumB_lt {n : Nat} {b' b : Nat → Option Nat} (le : LeB b' b) (tot : ∀ k, k < n → b (Lf ls k) ≠ none) {k v v' : Nat} (hk : k < n) (e : b (Lf ls k) = some v) (e' : b' (Lf ls k) = some v') (h : v' < v) : sumB n ls b' < sumB n ls b := by
  unfold sumB
  have : ∀ l : List Nat, (∀ k ∈ l, k < n) → k ∈ l → (l.map fun k => (b' (Lf ls k)).getD 0).sum < (l.map fun k => (b (Lf ls k)).getD 0).sum := by
    intro l
    induction l with
    | nil => intro _ h; cases h
    | cons i l ih =>
      intro hl hm
      have sub := fun x hx => hl x (List.mem_cons_of_mem _ hx)
      have mono : (l.map fun k => (b' (Lf ls k)).getD 0).sum ≤ (l.map fun k => (b (Lf ls k)).getD 0).sum := by
        clear ih hm hl
        induction l with
        | nil => exact Nat.le_refl _
        | cons k l ih =>
          have := ih fun x hx => sub x (List.mem_cons_of_mem _ hx)
          rw [List.map_cons, List.map_cons, List.sum_cons, List.sum_cons]
          cases hb : b (Lf ls k) with
          | none => exact absurd hb (tot k (sub k List.mem_cons_self))
          | some v =>
            obtain ⟨v', e, l'⟩ := le _ _ hb
            rw [e]
            show v' + _ ≤ v + _
            omega
      rw [List.map_cons, List.map_cons, List.sum_cons, List.sum_cons]
      rcases List.mem_cons.mp hm with z | hm
      · subst z
        rw [e, e']
        show v' + _ < v + _
        omega
      · have := ih sub hm
        cases hb : b (Lf ls i) with
        | none => exact absurd hb (tot i (hl i List.mem_cons_self))
        | some u =>
          obtain ⟨u', e2, l'⟩ := le _ _ hb
          rw [e2]
          show u' + _ < u + _
          omega
  exact this _ (fun k hk => List.mem_range.mp hk) (List.mem_range.mpr hk)
/-- a pass that lets something fall, where each class had a price -/
theorem pass_yes {b : Nat → Option Nat} (tot : ∀ k, k < ts.length → b (Lf ls k) ≠ none) : ∀ m, m ≤ ts.length → (bpPass ts ls c b m).f = true → sumB ts.length ls (bpPass ts ls c b m).b < sumB ts.length ls b
  | 0, _, h => by cases h
  | m + 1, hm, h => by
    have ih := pass_yes tot m (by omega)
    have le0 := pass_le (ts := ts) (ls := ls) (c := c) b m
    have tot' : ∀ k, k < ts.length → (bpPass ts ls c b m).b (Lf ls k) ≠ none := fun k hk z => by
      cases hb : b (Lf ls k) with
      | none => exact tot k hk hb
      | some v => obtain ⟨v', e, _⟩ := le0 _ _ hb; rw [z] at e; cases e
    have step := step_le (ts := ts) (ls := ls) (c := c) (bpPass ts ls c b m) m
    have le1 := sumB_le (ls := ls) (n := ts.length) step tot'
    have le2 := sumB_le (ls := ls) (n := ts.length) le0 tot
    show sumB ts.length ls (bpStep ts ls c (bpPass ts ls c b m) m).b < _
    cases hf : (bpPass ts ls c b m).f with
    | true => have := ih hf; omega
    | false =>
      suffices sumB ts.length ls (bpStep ts ls c (bpPass ts ls c b m) m).b < sumB ts.length ls (bpPass ts ls c b m).b by omega
      have h : (bpStep ts ls c (bpPass ts ls c b m) m).f = true := h
      revert step h
      unfold bpStep
      cases hp : prO ts ls c (bpPass ts ls c b m).b m with
      | none => intro _ h; rw [hf] at h; cases h
      | some p =>
        cases hb : (bpPass ts ls c b m).b (Lf ls m) with
        | none => exact absurd hb (tot' m (by omega))
        | some v =>
          show LeB (if p < v then (⟨updB _ (Lf ls m) p, true⟩ : BSt) else bpPass ts ls c b m).b _ → (if p < v then (⟨updB _ (Lf ls m) p, true⟩ : BSt) else bpPass ts ls c b m).f = true → sumB _ _ (if p < v then (⟨updB _ (Lf ls m) p, true⟩ : BSt) else bpPass ts ls c b m).b < _
          split
          · intro le _
            exact sumB_lt le tot' (show m < ts.length by omega) hb updB_same (by assumption)
          · intro _ h; rw [hf] at h; cases h
/-- the least prices -/
structure Best (ts : List Tm) (ls : List Nat) (c : Tm → Nat) (b : Nat → Option Nat) (B : Nat → Nat) : Prop where
  val : ∀ k, k < ts.length → b (Lf ls k) = some (B (Lf ls k))
  le : ∀ k, k < ts.length → B (Lf ls k) ≤ prN ts ls c B k
  at' : ∀ k, k < ts.length → ∃ m, m < ts.length ∧ Lf ls m = Lf ls k ∧ prN ts ls c B m = B (Lf ls k)
  pr : ∀ k, k < ts.length → prO ts ls c b k = some (prN ts ls c B k)
  dom : ∀ j, b j ≠ none → ∃ k, k < ts.length ∧ Lf ls k = j
theorem best_of (wf : WfT ts) {b : Nat → Option Nat} (s : Sup ts ls c b) (tot : ∀ k, k < ts.length → b (Lf ls k) ≠ none) (fx : ∀ k, k < ts.length → ∀ p, prO ts ls c b k = some p → ∃ v, b (Lf ls k) = some v ∧ v ≤ p) :
    Best ts ls c b fun j => (b j).getD 0 := by
  have val : ∀ k, k < ts.length → b (Lf ls k) = some ((b (Lf ls k)).getD 0) := fun k hk => by
    cases h : b (Lf ls k) with
    | none => exact absurd h (tot k hk)
    | some v => rfl
  have pr : ∀ k, k < ts.length → prO ts ls c b k = some (prN ts ls c (fun j => (b j).getD 0) k) := fun k hk => by
    have hk' : ts[k]? = some (tmAt ts k) := by simp [tmAt, List.getD, hk]
    have hw : ∀ a ∈ arms (tmAt ts k), a < ts.length := fun a ha => by
      cases ht : tmAt ts k with
      | num n => rw [ht] at ha; cases ha
      | name n => rw [ht] at ha; cases ha
      | of w ks => rw [ht] at hk' ha; have := wf k w ks hk' a ha; omega
    unfold prO prN
    rw [priceM_some]
    refine ⟨_, ?_, rfl⟩
    rw [List.map_map]
    exact List.map_congr_left fun a ha => val a (hw a ha)
  refine ⟨val, fun k hk => ?_, fun k hk => ?_, pr, fun j hj => ?_⟩
  · obtain ⟨v, h1, h2⟩ := fx k hk _ (pr k hk)
    show (b (Lf ls k)).getD 0 ≤ _
    rw [h1]; exact h2
  · obtain ⟨m, h1, h2, p, h3, h4⟩ := s _ _ (val k hk)
    refine ⟨m, h1, h2, ?_⟩
    rw [pr m h1] at h4
    cases h4
    obtain ⟨v, h5, h6⟩ := fx m h1 _ (pr m h1)
    have h7 := val m h1
    rw [h2] at h5 h7
    rw [h7] at h5
    have h5 := Option.some.inj h5
    show _ = (b (Lf ls k)).getD 0
    omega
  · cases h : b j with
    | none => exact absurd h hj
    | some v => obtain ⟨k, h1, h2, _⟩ := s j v h; exact ⟨k, h1, h2⟩
end
end SW
namespace SW
open PySem PySem.Spec L2 AL
/-! ### small things for every law -/
def oN : Option Nat → W
  | none => .non
  | some n => .int n
/-- leads of well made terms -/
structure LsOk (ts : List Tm) (ls : List Nat) : Prop where
  T : TsOk ts
  g : Good ts.length ls
theorem enW_item {xs : List W} {i : Nat} {x : W} (h : (enW xs)[i]? = some x) : ∃ w, xs[i]? = some w ∧ x = .tup [.int (i : Nat), w] := by
  have l := (List.getElem?_eq_some_iff.mp h).1
  rw [enW_length] at l
  have := enW_get (List.getElem?_eq_getElem l)
  rw [this] at h
  exact ⟨_, List.getElem?_eq_getElem l, (Option.some.inj h).symm⟩
theorem tW_item {ts : List Tm} {i : Nat} {x : W} (h : (tW ts)[i]? = some x) : ∃ t, ts[i]? = some t ∧ t.W = x := by
  rw [tW, List.getElem?_map] at h; exact Option.map_eq_some_iff.mp h
theorem nW_item {ls : List Nat} {i : Nat} {x : W} (h : (nW ls)[i]? = some x) : ∃ k : Nat, ls[i]? = some k ∧ W.int k = x := by
  rw [nW, List.getElem?_map] at h; exact Option.map_eq_some_iff.mp h
theorem tmAt_of {ts : List Tm} {k : Nat} {t : Tm} (h : ts[k]? = some t) : tmAt ts k = t := by simp [tmAt, List.getD, h]
def bI (b : Nat → Option Nat) : Nat → Option W := fun j => (b j).map fun (n : Nat) => .int n
theorem bI_upd {b : Nat → Option Nat} {j v : Nat} (i : Nat) : (if i = j then some (W.int (v : Int)) else bI b i) = bI (updB b j v) i := by
  unfold bI updB
  by_cases e : i = j
  · rw [if_pos e, if_pos e]; rfl
  · rw [if_neg e, if_neg e]
theorem at_of {α : Type} {xs : List α} {d : α} {i : Nat} (h : i < xs.length) : xs[i]? = some (xs.getD i d) := by simp [List.getD, h]
theorem aup2 {G : AH} {a b : Addr} {o u o' : AO} (h : a ≠ b) : aup (aup (aup G a o) b u) a o' = aup (aup G a o') b u := by
  rw [aup_swap h, aup_aup, aup_swap h.symm]
theorem sub2 {G : AH} {a b : Addr} {o u : AO} (ha : G a = none) (hb : G b = none) : Sub G (aup (aup G a o) b u) := fun q v e => by
  rw [aup_ne (ane_none e hb), aup_ne (ane_none e ha)]; exact e
theorem last_at {α : Type} {xs : List α} {x : α} (h : xs.getLast? = some x) : 0 < xs.length ∧ xs[xs.length - 1]? = some x := by
  rw [List.getLast?_eq_getElem?] at h
  have := (List.getElem?_eq_some_iff.mp h).1
  exact ⟨by omega, h⟩
theorem atI_last {xs : List W} {x : W} (h : xs[xs.length - 1]? = some x) (h0 : 0 < xs.length) : atI xs (-1) = some x := by
  have : ixN xs.length (-1) = some (xs.length - 1) := by
    unfold ixN
    rw [if_neg (by omega), if_pos (by omega)]
    congr 1
    omega
  unfold atI
  rw [this]
  exact h
theorem divp_small {i j : Int} (h : 0 < j) (h' : j < 2 ^ 64) : CDivP i j := ⟨h, PyProof.noPylong_of_log2 (by
  have : j.natAbs.log2 < 64 := by
    by_cases z : j.natAbs = 0
    · rw [z]; decide
    · exact (Nat.log2_lt z).mpr (by omega)
  omega)⟩
theorem okWs_nW : ∀ ks : List Nat, okWs (nW ks) = true
  | [] => rfl
  | k :: ks => by show (true && okWs (nW ks)) = true; rw [okWs_nW ks]; rfl
theorem dpWs_nW : ∀ ks : List Nat, dpWs (nW ks) = 0
  | [] => rfl
  | k :: ks => by show max 0 (dpWs (nW ks)) = 0; rw [dpWs_nW ks]; rfl
theorem any_nW (ks : List Nat) (k : Nat) : ((nW ks).any fun z => eqW z (.int (k : Nat))) = decide (k ∈ ks) := by
  induction ks with
  | nil => simp [nW]
  | cons j ks ih =>
    show (eqW (.int j) (.int k) || (nW ks).any _) = _
    rw [ih]
    show (decide ((j : Int) = (k : Int)) || _) = _
    by_cases e : j = k
    · subst e; simp
    · have e1 : ¬ (j : Int) = (k : Int) := by omega
      have e2 : ¬ k = j := fun z => e z.symm
      simp [e1, e2]
theorem fIn_nW {G : AH} {y : W} {ks : List Nat} {k : Nat} {neg : Bool} {K : W → AH → Prop} (h : LsA G y (nW ks)) (kk : K (.bl (if neg then !decide (k ∈ ks) else decide (k ∈ ks))) G) : fInD neg (.int (k : Nat)) y G K :=
  fIn_ok h (by rw [okWs_nW, dpWs_nW]; rfl) (by rw [any_nW]; exact kk)
theorem sum_cast (xs : List Nat) : (xs.map fun (n : Nat) => (n : Int)).sum = ((xs.sum : Nat) : Int) := by
  induction xs with
  | nil => rfl
  | cons x xs ih => rw [List.map_cons, List.sum_cons, List.sum_cons, ih]; omega
theorem cutW_to {xs : List W} (k : Nat) : cutW xs none (some (k : Int)) = xs.take k := by
  unfold cutW
  rw [HT.sIx_none, HT.sIx_nat, List.drop_zero, Nat.sub_zero, ← List.take_take, List.take_length]
theorem okWs_tW : ∀ {ts : List Tm}, (∀ t ∈ ts, okW t.W = true) → okWs (tW ts) = true
  | [], _ => rfl
  | t :: ts, h => by
    show (okW t.W && okWs (tW ts)) = true
    rw [h t List.mem_cons_self, okWs_tW fun t ht => h t (List.mem_cons_of_mem _ ht)]; rfl
theorem dpW_tm (t : Tm) : dpW t.W ≤ 2 := by
  cases t with
  | num n => show max 0 (max 0 0) + 1 ≤ 2; decide
  | name n => show max 0 (max 0 0) + 1 ≤ 2; decide
  | of w ks => show max 0 (max 0 (max (dpWs (nW ks) + 1) 0)) + 1 ≤ 2; rw [dpWs_nW]; decide
theorem dpWs_tW : ∀ ts : List Tm, dpWs (tW ts) ≤ 2
  | [] => by show 0 ≤ 2; decide
  | t :: ts => Nat.max_le.mpr ⟨dpW_tm t, dpWs_tW ts⟩
theorem any_tW (ts : List Tm) (t : Tm) : ((tW ts).any fun z => eqW z t.W) = decide (t ∈ ts) := by
  induction ts with
  | nil => simp [tW]
  | cons u ts ih =>
    show (eqW u.W t.W || (tW ts).any _) = _
    rw [ih]
    by_cases e : u = t
    · subst e; rw [eqW_self]; simp
    · have : eqW u.W t.W = false := by
        cases h : eqW u.W t.W with
        | false => rfl
        | true => exact absurd (Tm.W_inj (eq_of_eqW _ _ h)) e
      rw [this]
      have e2 : ¬ t = u := fun z => e z.symm
      simp [e2]
theorem sub_aup {G G' : AH} {p : Addr} {o : AO} (s : Sub G G') (h : G p = none) : Sub G (aup G' p o) := fun q o e => by rw [aup_ne (ane_none e h)]; exact s q o e
theorem AQ.mono' {X : Cx} {e : List Expr} {ρ : AS} {G : AH} {K K' : List W → AH → Prop} (h : AQ X e ρ G K) (i : ∀ w G, K w G → K' w G) : AQ X e ρ G K' :=
  ⟨fun pos pins s σ H I rs rg => thn (h.run pos pins s σ H I rs rg) fun u s' ⟨v, H', I', r, ws, G', k, r1, g, hl, q⟩ => ⟨v, H', I', r, ws, G', k, r1, g, hl, i _ _ q⟩⟩
theorem q_maxDefM {X : Cx} {e : Expr} {p pos p2 kpos : Pos} {ρ : AS} {G : AH} {K : W → AH → Prop} {d M : Int} {j : Nat} (hu : X.A.units + 64 < cLine) (hm : X.mg "max" = none) (h : AQ X [e] ρ G fun ws G1 => ∃ w ns, ws = [w] ∧ LsA G1 w (ns.map W.int) ∧ (ns = [] → d = M) ∧ (∀ n r, ns = n :: r → r.foldl max n = M) ∧ K (.int M) G1) (hc : X.calm = true := by rfl) (hg : Gl X "max" := by rfl)
    (he : backTo pos (starEach [e] X.env) = (false, eval e X.env) :: backTo pos (starEach [] X.env) := by rfl) (hpl : (backTo pos (starEach [e] X.env)).any (·.1) = false := by rfl)
    (hall : (backToKw pos (keywordEach [⟨some "default", .Constant (.int d) j p2, kpos⟩] X.env)).all (·.1.isSome) = true := by rfl) (hnone : (backToKw pos (keywordEach [⟨some "default", .Constant (.int d) j p2, kpos⟩] X.env)).any (·.1.isNone) = false := by rfl) (hks : (backToKw pos (keywordEach [⟨some "default", .Constant (.int d) j p2, kpos⟩] X.env)).filterMap (·.1) = [Str.ofString "default"] := by rfl) :
    EQ X (.Call (.Name "max" p) [e] [⟨some "default", .Constant (.int d) j p2, kpos⟩] pos) ρ G K :=
  q_maxDef hu hm (AQ.mono' h fun ws G1 ⟨w, ns, a1, a2, a3, a4, a5⟩ => ⟨w, ns, a1, a2, fun e => by rw [a3 e]; exact a5, fun n r e => by rw [a4 n r e]; exact a5⟩) hc hg he hpl hall hnone hks
theorem fIx_tup {xs : List W} {i : Int} {v : W} {G : AH} {K : W → AH → Prop} (h : atI xs i = some v) (k : K v G) : fIx (.tup xs) (.int i) G K := by
  show onO (atI xs i) fun v => K v G
  rw [h]; exact k
theorem fNe_same {i : Int} {G : AH} {K : W → AH → Prop} (k : K (.bl false) G) : fNe (.int i) (.int i) G K := by
  show K (.bl (!decide (i = i))) G
  rw [decide_eq_true rfl]; exact k
theorem nodup_inj {l : List Nat} (nd : l.Nodup) {i j : Nat} (hi : i < l.length) (hj : j < l.length) (e : l[i] = l[j]) : i = j := by
  apply Classical.byContradiction
  intro n
  rcases Nat.lt_or_gt_of_ne n with h | h
  · exact List.pairwise_iff_getElem.mp nd i j hi hj h e
  · exact List.pairwise_iff_getElem.mp nd j i hj hi h e.symm
theorem nodup_sub_len : ∀ {a b : List Nat}, a.Nodup → (∀ x ∈ a, x ∈ b) → a.length ≤ b.length
  | [], _, _, _ => Nat.zero_le _
  | x :: a, b, nd, h => by
    have nd := List.nodup_cons.mp nd
    have hx := h x List.mem_cons_self
    have := nodup_sub_len (a := a) (b := b.erase x) nd.2 fun y hy => (List.mem_erase_of_ne (fun e => nd.1 (by rw [← e]; exact hy))).mpr (h y (List.mem_cons_of_mem _ hy))
    rw [List.length_erase_of_mem hx] at this
    have := List.length_pos_of_mem hx
    rw [List.length_cons]; omega
theorem nodup_all {a b : List Nat} (nd : a.Nodup) (h : ∀ x ∈ a, x ∈ b) (l : b.length ≤ a.length) : ∀ x ∈ b, x ∈ a := fun x hx => Classical.byContradiction fun n => by
  have := nodup_sub_len (a := x :: a) (b := b) (List.nodup_cons.mpr ⟨n, nd⟩) fun y hy => by
    rcases List.mem_cons.mp hy with e | hy
    · rw [e]; exact hx
    · exact h y hy
  rw [List.length_cons] at this; omega
theorem sum_mem_le : ∀ {l : List Nat} {x : Nat}, x ∈ l → x ≤ l.sum
  | y :: l, x, h => by
    rw [List.sum_cons]
    rcases List.mem_cons.mp h with e | h
    · omega
    · have := sum_mem_le h; omega
end SW
namespace SW
open PySem PySem.Spec L2 AL
/-! ### costs -/
def ky : Tm → Str
  | .num _ => "#"
  | .name _ => "@"
  | .of w _ => w
def CsOk (kws : List (Key × W)) : Prop := ∀ k w, lk kws k = some w → ∃ n : Nat, w = .int n ∧ 1 ≤ n
def cst (kws : List (Key × W)) (t : Tm) : Nat := match lk kws (.inr (ky t)) with
  | some (.int i) => i.toNat
  | _ => 1
theorem cst_get {kws : List (Key × W)} (h : CsOk kws) (t : Tm) : (lk kws (.inr (ky t))).getD (.int 1) = .int (cst kws t : Nat) := by
  unfold cst
  cases e : lk kws (.inr (ky t)) with
  | none => rfl
  | some w =>
    obtain ⟨n, rfl, _⟩ := h _ _ e
    show W.int n = W.int ((n : Int).toNat : Nat)
    simp
theorem cst_pos {kws : List (Key × W)} (h : CsOk kws) (t : Tm) : 1 ≤ cst kws t := by
  unfold cst
  cases e : lk kws (.inr (ky t)) with
  | none => exact Nat.le_refl _
  | some w =>
    obtain ⟨n, rfl, h1⟩ := h _ _ e
    show 1 ≤ (n : Int).toNat
    omega
section
variable {P : Program} {w : World} {K : PySem.W.Frag} {mg : Str → Option Value} {base : Heap}
abbrev sCost : Stmt := top 11
theorem sc_cost : FnScope ["term", "costs"] ["term", "costs"] (defScope sCost) := ⟨rfl, rfl, rfl, by decide +kernel, rfl, by decide +kernel, by decide +kernel⟩
def spCost : ASp := fun ws G K _ => ∃ (t : Tm) (d : W) (kws : List (Key × W)), ws = [t.W, d] ∧ DkA G d kws ∧ CsOk kws ∧ K (.int (cst kws t : Nat)) G
theorem ok_cost {f : Addr} {fd : FuncData} (F : Fun K "cost_of" "cost_of" sCost f fd) : FnOk P w K mg base CX0 1 f fd ["term", "costs"] (low ⟨P, w, K⟩ spCost) := by
  refine fnA_of F sc_cost (fun ws G Kc KE ⟨t, d, kws, e, _⟩ => by rw [e]; rfl) fun cdv A outer s H E ws G Kc KE hr ⟨t, d, kws, e, hD, hC, k⟩ => ?_
  subst e
  have g := cst_get hC t
  rw [← g] at k
  refine s_cons (s_if (b_eq (u64 hr) (q_ix (qv 0 rfl (q_int ?_)))))
  cases t with
  | num n =>
    refine q_str (ifB_T (by decide +kernel) (s_cons (s_ret (q_dget2 (u64 hr) (qv 1 rfl ⟨_, hD, q_str (q_int ⟨_, _, hD, rfl, ?_⟩)⟩)))))
    exact ⟨G, Sub.refl, k⟩
  | name n =>
    refine q_str (ifB_F (by decide +kernel) (s_nil (s_cons (s_if (b_eq (u64 hr) (q_ix (qv 0 rfl (q_int ?_))))))))
    refine q_str (ifB_T (by decide +kernel) (s_cons (s_ret (q_dget2 (u64 hr) (qv 1 rfl ⟨_, hD, q_str (q_int ⟨_, _, hD, rfl, ?_⟩)⟩)))))
    exact ⟨G, Sub.refl, k⟩
  | of x ks =>
    refine q_str (ifB_F (by decide +kernel) (s_nil (s_cons (s_if (b_eq (u64 hr) (q_ix (qv 0 rfl (q_int ?_))))))))
    refine q_str (ifB_F (by decide +kernel) (s_nil (s_cons (s_ret (q_dget2 (u64 hr) (qv 1 rfl ⟨_, hD, q_ix (qv 0 rfl (q_int ?_))⟩))))))
    refine q_int ⟨_, _, hD, rfl, ?_⟩
    exact ⟨G, Sub.refl, k⟩
abbrev sArms : Stmt := top 12
theorem sc_arms : FnScope ["term"] ["term"] (defScope sArms) := ⟨rfl, rfl, rfl, by decide +kernel, rfl, by decide +kernel, by decide +kernel⟩
def spArms : ASp := fun ws G K _ => ∃ (t : Tm), ws = [t.W] ∧ K (.tup (nW (arms t))) G
theorem ok_arms {f : Addr} {fd : FuncData} (F : Fun K "arms_of" "arms_of" sArms f fd) : FnOk P w K mg base CX0 1 f fd ["term"] (low ⟨P, w, K⟩ spArms) := by
  refine fnA_of F sc_arms (fun ws G Kc KE ⟨t, e, _⟩ => by rw [e]; rfl) fun cdv A outer s H E ws G Kc KE hr ⟨t, e, k⟩ => ?_
  subst e
  refine s_cons (s_if (b_eq (u64 hr) (q_ix (qv 0 rfl (q_int ?_)))))
  cases t with
  | num n =>
    exact q_str (ifB_F (by decide +kernel) (s_nil (s_cons (s_ret (q_tup (a_nil ⟨G, Sub.refl, k⟩))))))
  | name n =>
    exact q_str (ifB_F (by decide +kernel) (s_nil (s_cons (s_ret (q_tup (a_nil ⟨G, Sub.refl, k⟩))))))
  | of x ks =>
    refine q_str (ifB_T (by decide +kernel) (s_cons (s_ret (q_ix (qv 0 rfl (q_int ?_))))))
    exact ⟨G, Sub.refl, k⟩
/-! ### price_by -/
abbrev sPb : Stmt := top 13
theorem sc_pb : FnScope ["term", "leads", "costs", "best", "price", "arm"] ["term", "leads", "costs", "best"] (defScope sPb) := ⟨rfl, rfl, rfl, by decide +kernel, rfl, by decide +kernel, by decide +kernel⟩
def spPb : ASp := fun ws G K _ => ∃ (t : Tm) (l d bd : W) (ls : List Nat) (kws bk : List (Key × W)) (N : Nat) (b : Nat → Option Nat), ws = [t.W, l, d, bd] ∧ LsA G l (nW ls) ∧ DkA G d kws ∧ CsOk kws ∧ DkA G bd bk ∧ DI N bk (bI b) ∧ (∀ k ∈ arms t, k < ls.length) ∧
  K (oN (priceM (cst kws t) ((arms t).map fun a => b (Lf ls a)))) G
theorem ok_pb {f : Addr} {fd : FuncData} (F : Fun K "price_by" "price_by" sPb f fd) (B : Bl mg) (CC : Cal P w K mg base "cost_of" 1 ["term", "costs"] spCost) (CA : Cal P w K mg base "arms_of" 1 ["term"] spArms) : FnOk P w K mg base CX0 2 f fd ["term", "leads", "costs", "best"] (low ⟨P, w, K⟩ spPb) := by
  refine fnA_of F sc_pb (fun ws G Kc KE ⟨t, l, d, bd, ls, kws, bk, N, b, e, _⟩ => by rw [e]; rfl) fun cdv A outer s H E ws G Kc KE hr ⟨t, l, d, bd, ls, kws, bk, N, b, e, hL, hD, hC, hB, DB, har, k⟩ => ?_
  subst e
  refine s_cons (s_set (i := 4) sc_pb.nd (q_cal CC hr (a_cons (qv 0 rfl (a_cons (qv 2 rfl (a_nil ⟨t, d, kws, rfl, hD, hC, ?_⟩)))))))
  refine s_cons (s_for PassesOwn.never rfl (i_tup (q_cal CA hr (a_cons (qv 0 rfl (a_nil ⟨t, rfl, ?_⟩))))))
  refine ⟨fun i ρ' G' => ∃ (p : Nat) (v : Option W), ρ' = [some t.W, some l, some d, some bd, some (.int p), v] ∧ G' = G ∧ priceM (cst kws t) ((arms t).map fun a => b (Lf ls a)) = priceM p (((arms t).drop i).map fun a => b (Lf ls a)), ⟨_, _, rfl, rfl, rfl⟩, fun _ _ _ _ _ => trivial, fun i x ρ' G' hx ⟨p, v, e1, e2, e3⟩ => ?_, fun ρ' G' ⟨p, v, e1, e2, e3⟩ => ?_⟩
  · subst e1 e2
    obtain ⟨a, ha, rfl⟩ : ∃ a : Nat, (arms t)[i]? = some a ∧ W.int a = x := by
      rw [nW, List.getElem?_map] at hx; exact Option.map_eq_some_iff.mp hx
    obtain ⟨hi, ea⟩ := List.getElem?_eq_some_iff.mp ha
    have hal : a < ls.length := har a (List.mem_of_getElem? ha)
    rw [List.drop_eq_getElem_cons hi, ea, List.map_cons] at e3
    refine g_name (i := 5) sc_pb.nd ?_
    refine s_cons (s_if (b_dnin (u64 hr) (q_ix (qv 1 rfl (qv 5 rfl (fIx_ls hL (nW_at hal) ?_))))))
    refine qv 3 rfl ⟨bk, _, hB, keyW_nat _, ?_⟩
    rw [DB.get]
    cases hb : b (Lf ls a) with
    | none =>
      rw [hb] at e3
      have e0 : (bI b (Lf ls a)) = none := by unfold bI; rw [hb]; rfl
      rw [show ls.getD a 0 = Lf ls a from rfl, e0]
      refine ifT (s_cons (s_ret (q_non ⟨G', Sub.refl, ?_⟩)))
      rw [e3] at k
      exact k
    | some n =>
      rw [hb] at e3
      have e0 : (bI b (Lf ls a)) = some (.int n) := by unfold bI; rw [hb]; rfl
      rw [show ls.getD a 0 = Lf ls a from rfl, e0]
      refine ifF (s_nil (s_cons (s_addI (i := 4) (z := p) sc_pb.nd rfl (q_dget (u64 hr) (qv 3 rfl (q_ix (qv 1 rfl (qv 5 rfl (fIx_ls hL (nW_at hal) ?_)))))))))
      refine ⟨bk, _, _, hB, keyW_nat _, by rw [DB.get]; exact e0, ?_⟩
      exact s_nil ⟨p + n, _, rfl, rfl, e3⟩
  · subst e1 e2
    rw [nW_length, List.drop_length] at e3
    rw [e3] at k
    exact s_cons (s_ret (qv 4 rfl ⟨G', Sub.refl, k⟩))
/-! ### best_prices -/
abbrev sBp : Stmt := top 14
theorem sc_bp : FnScope ["terms", "leads", "costs", "best", "fallen", "k", "term", "price"] ["terms", "leads", "costs"] (defScope sBp) := ⟨rfl, rfl, rfl, by decide +kernel, rfl, by decide +kernel, by decide +kernel⟩
def spBp : ASp := fun ws G K _ => ∃ (t l d : W) (ts : List Tm) (ls : List Nat) (kws : List (Key × W)), ws = [t, l, d] ∧ LsA G t (tW ts) ∧ LsA G l (nW ls) ∧ DkA G d kws ∧ CsOk kws ∧ LsOk ts ls ∧
  ∀ p bk b B, G p = none → DI ts.length bk (bI b) → Best ts ls (cst kws) b B → K (.ref p) (aup G p (.dK bk))
theorem ok_bp {f : Addr} {fd : FuncData} (F : Fun K "best_prices" "best_prices" sBp f fd) (B : Bl mg) (CP : Cal P w K mg base "price_by" 2 ["term", "leads", "costs", "best"] spPb) : FnOk P w K mg base CX0 3 f fd ["terms", "leads", "costs"] (low ⟨P, w, K⟩ spBp) := by
  refine fnA_of F sc_bp (fun ws G Kc KE ⟨t, l, d, ts, ls, kws, e, _⟩ => by rw [e]; rfl) fun cdv A outer s H E ws G Kc KE hr ⟨t, l, d, ts, ls, kws, e, hT, hL, hD, hC, O, k⟩ => ?_
  subst e
  have wf := O.T.wf
  have many := O.T.many
  refine s_cons (s_set (i := 3) sc_bp.nd (q_dnew fun p hp => ?_))
  refine s_cons (s_set (i := 4) sc_bp.nd (q_bl ?_))
  let c := cst kws
  let S1 := sumB ts.length ls (bpPass ts ls c (fun _ => none) ts.length).b + 2
  let Pw : Nat → AS → AH → Prop := fun m ρ' G' => ∃ (g : Bool) (bk : List (Key × W)) (b : Nat → Option Nat) (v1 v2 v3 : Option W), ρ' = [some t, some l, some d, some (.ref p), some (.bl g), v1, v2, v3] ∧ G' = aup G p (.dK bk) ∧ DI ts.length bk (bI b) ∧ Sup ts ls c b ∧
    ((g = true ∧ (∀ j, b j = none) ∧ m = S1) ∨ ((∀ k, k < ts.length → b (Lf ls k) ≠ none) ∧ ((g = true ∧ m = sumB ts.length ls b + 1) ∨ (g = false ∧ m = 0 ∧ ∀ k, k < ts.length → ∀ p, prO ts ls c b k = some p → ∃ v, b (Lf ls k) = some v ∧ v ≤ p))))
  refine s_cons (s_whileN PassesOwn.never Pw S1 ⟨true, [], fun _ => none, none, none, none, rfl, rfl, (DI.nil _).cong fun _ => rfl, (fun j v e => by cases e), .inl ⟨rfl, fun _ => rfl, rfl⟩⟩ ?_)
  rintro m ρ0 G0 ⟨g, bk0, b0, v1, v2, v3, e1, e2, DB0, SU0, alt⟩
  subst e1 e2
  refine b_val (qv 4 rfl ?_)
  refine ifB_of (fun hg => ?_) (fun hg => ?_)
  · subst hg
    refine s_cons (s_set (i := 4) sc_bp.nd (q_bl ?_))
    refine s_cons (s_for PassesOwn.never rfl (i_enum rfl B.enumerate (qv 0 rfl ⟨_, hT.new hp, ?_⟩)))
    refine ⟨fun i ρ' G' => ∃ (bk : List (Key × W)) (v1 v2 v3 : Option W), ρ' = [some t, some l, some d, some (.ref p), some (.bl (bpPass ts ls c b0 i).f), v1, v2, v3] ∧ G' = aup G p (.dK bk) ∧ DI ts.length bk (bI (bpPass ts ls c b0 i).b), ⟨bk0, v1, v2, v3, rfl, rfl, DB0⟩,
      fun i ρ' G' _ ⟨_, _, _, _, _, e2, _⟩ => by rw [e2]; exact hT.new hp, fun i x ρ' G' hx ⟨bk, v1, v2, v3, e1, e2, DB⟩ => ?_, fun ρ' G' ⟨bk, v1, v2, v3, e1, e2, DB⟩ => ?_⟩
    · obtain ⟨tw, ht, rfl⟩ := enW_item hx
      obtain ⟨tm, htm, rfl⟩ := tW_item ht
      have hi : i < ts.length := (List.getElem?_eq_some_iff.mp htm).1
      have hil : i < ls.length := by rw [O.g.len]; exact hi
      subst e1 e2
      have step : bpPass ts ls c b0 (i + 1) = bpStep ts ls c (bpPass ts ls c b0 i) i := rfl
      generalize bpPass ts ls c b0 i = st at step DB ⊢
      refine g_tup rfl (gs_cons (g_name (i := 5) sc_bp.nd (gs_cons (g_name (i := 6) sc_bp.nd (gs_nil ?_)))))
      have har : ∀ k ∈ arms tm, k < ls.length := (mk_arms O.T (ls := ls) O.g.len htm).1
      refine s_cons (s_set (i := 7) sc_bp.nd (q_cal CP hr (a_cons (qv 6 rfl (a_cons (qv 1 rfl (a_cons (qv 2 rfl (a_cons (qv 3 rfl (a_nil ⟨tm, l, d, .ref p, ls, kws, bk, ts.length, st.b, rfl, hL.new hp, hD.new hp, hC, .inl aup_same, DB, har, ?_⟩)))))))))))
      have pe : priceM (cst kws tm) ((arms tm).map fun a => st.b (Lf ls a)) = prO ts ls c st.b i := by unfold prO; rw [tmAt_of htm]
      rw [pe]
      refine s_cons (s_if (WQ.test (w_and (b_isn (qv 7 rfl (q_non ?_))))))
      cases hpo : prO ts ls c st.b i with
      | none =>
        have es : bpStep ts ls c st i = st := by unfold bpStep; rw [hpo]
        rw [es] at step
        exact ifF (ifF (s_nil (s_nil ⟨bk, _, _, _, by rw [step]; rfl, rfl, by rw [step]; exact DB⟩)))
      | some pr =>
        refine ifT (w_and1 (WQ.test (w_or (b_dnin (u64 hr) (q_ix (qv 1 rfl (qv 5 rfl (fIx_ls (hL.new hp) (nW_at hil) ?_))))))))
        refine qv 3 rfl ⟨bk, _, .inl aup_same, keyW_nat _, ?_⟩
        rw [DB.get]
        have hlt : ls.getD i 0 < ts.length := O.g.lt hi
        cases hb : st.b (Lf ls i) with
        | none =>
          have e0 : (bI st.b (ls.getD i 0)) = none := by show (st.b (Lf ls i)).map _ = none; rw [hb]; rfl
          have es : bpStep ts ls c st i = ⟨updB st.b (Lf ls i) pr, true⟩ := by unfold bpStep; rw [hpo, hb]
          rw [es] at step
          rw [e0]
          refine ifT (ifT ?_)
          refine s_cons (s_asg (qv 7 rfl (g_dput (u64 hr) (qv 3 rfl (q_ix (qv 1 rfl (qv 5 rfl (fIx_ls (hL.new hp) (nW_at hil) ?_))))))))
          refine ⟨bk, _, aup_same, keyW_nat _, DB.small (by omega), ?_⟩
          refine s_cons (s_set (i := 4) sc_bp.nd (q_bl ?_))
          rw [aup_aup]
          exact s_nil (s_nil ⟨_, _, _, _, by rw [step]; rfl, rfl, by rw [step]; exact (DB.put hlt _).cong fun j => bI_upd j⟩)
        | some v =>
          have e0 : (bI st.b (ls.getD i 0)) = some (.int v) := by show (st.b (Lf ls i)).map _ = some _; rw [hb]; rfl
          rw [e0]
          refine ifF (w_or1 (b_lt (qv 7 rfl (q_dget (u64 hr) (qv 3 rfl (q_ix (qv 1 rfl (qv 5 rfl (fIx_ls (hL.new hp) (nW_at hil) ?_)))))))))
          refine ⟨bk, _, _, .inl aup_same, keyW_nat _, by rw [DB.get]; exact e0, ?_⟩
          have es : bpStep ts ls c st i = if pr < v then ⟨updB st.b (Lf ls i) pr, true⟩ else st := by unfold bpStep; rw [hpo, hb]
          refine ifB_dec (fun h => ?_) (fun h => ?_)
          · rw [es, if_pos (by omega)] at step
            refine s_cons (s_asg (qv 7 rfl (g_dput (u64 hr) (qv 3 rfl (q_ix (qv 1 rfl (qv 5 rfl (fIx_ls (hL.new hp) (nW_at hil) ?_))))))))
            refine ⟨bk, _, aup_same, keyW_nat _, DB.small (by omega), ?_⟩
            refine s_cons (s_set (i := 4) sc_bp.nd (q_bl ?_))
            rw [aup_aup]
            exact s_nil (s_nil ⟨_, _, _, _, by rw [step]; rfl, rfl, by rw [step]; exact (DB.put hlt _).cong fun j => bI_upd j⟩)
          · rw [es, if_neg (by omega)] at step
            exact s_nil (s_nil ⟨bk, _, _, _, by rw [step]; rfl, rfl, by rw [step]; exact DB⟩)
    · rw [enW_length, tW_length] at e1 DB
      have SU := pass_sup (ts := ts) (ls := ls) (c := c) SU0 ts.length (Nat.le_refl _)
      have TT := pass_tot (ts := ts) (ls := ls) (c := c) wf b0 ts.length (Nat.le_refl _)
      subst e1 e2
      refine s_nil ?_
      cases hf : (bpPass ts ls c b0 ts.length).f with
      | true =>
        refine ⟨sumB ts.length ls (bpPass ts ls c b0 ts.length).b + 1, ?_, true, bk, _, _, _, _, rfl, rfl, DB, SU, .inr ⟨TT, .inl ⟨rfl, rfl⟩⟩⟩
        rcases alt with ⟨_, hn, em⟩ | ⟨tot, ⟨_, em⟩ | ⟨h, _⟩⟩
        · have : b0 = fun _ => none := funext hn
          subst this
          rw [em]; exact Nat.lt_succ_self _
        · rw [em]; have := pass_yes tot ts.length (Nat.le_refl _) hf; omega
        · cases h
      | false =>
        obtain ⟨n1, n2⟩ := pass_no (ts := ts) (ls := ls) (c := c) (b := b0) ts.length hf
        rw [n1] at TT DB
        refine ⟨0, ?_, false, bk, b0, _, _, _, rfl, rfl, DB, SU0, .inr ⟨TT, .inr ⟨rfl, rfl, n2⟩⟩⟩
        rcases alt with ⟨_, _, em⟩ | ⟨_, ⟨_, em⟩ | ⟨h, _⟩⟩
        · rw [em]; exact Nat.succ_pos _
        · rw [em]; exact Nat.succ_pos _
        · cases h
  · subst hg
    rcases alt with ⟨h, _⟩ | ⟨tot, ⟨h, _⟩ | ⟨_, _, fx⟩⟩
    · cases h
    · cases h
    · exact s_cons (s_ret (qv 3 rfl ⟨_, Sub.refl, k p bk0 b0 _ hp DB0 (best_of wf SU0 tot fx)⟩))
end
end SW
namespace SW
open PySem PySem.Spec L2 AL
/-! ### choices, plain -/
inductive Reach (nx : Nat → List Nat) (a : Nat) : Nat → Prop where
  | refl : Reach nx a a
  | step {b c : Nat} : Reach nx a b → c ∈ nx b → Reach nx a c
structure Top (nx : Nat → List Nat) (ord : List Nat) : Prop where
  nd : ord.Nodup
  ahead : ∀ (i l : Nat), ord[i]? = some l → ∀ m ∈ nx l, m ∈ ord.take i
theorem Top.nil {nx : Nat → List Nat} : Top nx [] := ⟨List.nodup_nil, fun i l h => by simp at h⟩
theorem Top.add {nx : Nat → List Nat} {ord : List Nat} {l : Nat} (t : Top nx ord) (hl : l ∉ ord) (h : ∀ m ∈ nx l, m ∈ ord) : Top nx (ord ++ [l]) := by
  refine ⟨List.nodup_append.mpr ⟨t.nd, by simp, fun a ha b hb e => by simp at hb; subst hb; subst e; exact hl ha⟩, fun i k hk m hm => ?_⟩
  by_cases c : i < ord.length
  · rw [List.getElem?_append_left c] at hk
    have := t.ahead i k hk m hm
    rw [List.take_append_of_le_length (by omega)]; exact this
  · rw [List.getElem?_append_right (by omega)] at hk
    have z : i - ord.length = 0 := by
      cases e : i - ord.length with
      | zero => rfl
      | succ n => rw [e] at hk; simp at hk
    rw [z] at hk
    have : l = k := by simpa using hk
    subst this
    have e : i = ord.length := by omega
    rw [e, List.take_left']
    · exact h m hm
    · rfl
theorem Top.sub {nx : Nat → List Nat} {ord : List Nat} (t : Top nx ord) {l m : Nat} (h : l ∈ ord) (hm : m ∈ nx l) : m ∈ ord := by
  obtain ⟨i, hi, e⟩ := List.getElem_of_mem h
  exact List.mem_of_mem_take (t.ahead i l (by rw [← e]; exact List.getElem?_eq_getElem hi) m hm)
theorem Top.all {nx : Nat → List Nat} {ord : List Nat} (t : Top nx ord) {a b : Nat} (h : a ∈ ord) (r : Reach nx a b) : b ∈ ord := by
  induction r with
  | refl => exact h
  | step _ hm ih => exact t.sub ih hm
theorem Top.take {nx : Nat → List Nat} {ord : List Nat} (t : Top nx ord) (i : Nat) : Top nx (ord.take i) := by
  refine ⟨t.nd.sublist (List.take_sublist _ _), fun j l h m hm => ?_⟩
  rw [List.getElem?_take] at h
  split at h
  · rename_i hj
    have := t.ahead j l h m hm
    rw [List.take_take, Nat.min_eq_left (by omega)]; exact this
  · cases h
/-- what is done by a choice -/
structure Ord (nx : Nat → List Nat) (lead : Nat) (ord : List Nat) : Prop where
  top : Top nx ord
  last : ord.getLast? = some lead
  rch : ∀ l ∈ ord, Reach nx lead l
def RowsP (nx : Nat → List Nat) (lead : Nat) : Option (List Nat) → Prop
  | some ord => Ord nx lead ord
  | none => ∀ r : Nat → Nat, ¬ ∀ l, Reach nx lead l → ∀ m ∈ nx l, r m < r l
/-- the classes that are needed -/
structure Fnd (nx : Nat → List Nat) (S : Nat → Prop) (lead : Nat) (fnd : List Nat) : Prop where
  nd : fnd.Nodup
  hd : fnd[0]? = some lead
  rch : ∀ l ∈ fnd, Reach nx lead l
  ok : ∀ l ∈ fnd, S l
theorem Fnd.one {nx : Nat → List Nat} {S : Nat → Prop} {lead : Nat} (h : S lead) : Fnd nx S lead [lead] := ⟨by simp, rfl, fun l hl => by simp at hl; subst hl; exact .refl, fun l hl => by simp at hl; subst hl; exact h⟩
theorem Fnd.add {nx : Nat → List Nat} {S : Nat → Prop} {lead l m : Nat} {fnd : List Nat} (f : Fnd nx S lead fnd) (hl : l ∈ fnd) (hm : m ∈ nx l) (h : m ∉ fnd) (hs : S m) : Fnd nx S lead (fnd ++ [m]) := by
  refine ⟨List.nodup_append.mpr ⟨f.nd, by simp, fun a ha b hb e => by simp at hb; subst hb; subst e; exact h ha⟩, ?_, fun x hx => ?_, fun x hx => ?_⟩
  · rw [List.getElem?_append_left (List.length_pos_of_mem hl)]; exact f.hd
  · rcases List.mem_append.mp hx with hx | hx
    · exact f.rch x hx
    · simp at hx; subst hx; exact .step (f.rch l hl) hm
  · rcases List.mem_append.mp hx with hx | hx
    · exact f.ok x hx
    · simp at hx; subst hx; exact hs
theorem rows_some {nx : Nat → List Nat} {S : Nat → Prop} {lead : Nat} {fnd ord : List Nat} (f : Fnd nx S lead fnd) (t : Top nx ord) (sub : ∀ l ∈ ord, l ∈ fnd) (h : fnd.length ≤ ord.length) : Ord nx lead ord := by
  have all := nodup_all t.nd sub h
  have hl : lead ∈ ord := all lead (List.mem_of_getElem? f.hd)
  refine ⟨t, ?_, fun l hl => f.rch l (sub l hl)⟩
  have ne : ord ≠ [] := List.ne_nil_of_mem hl
  rw [List.getLast?_eq_some_getLast ne]
  congr 1
  apply Classical.byContradiction
  intro n
  have hz : ord.getLast ne ∈ ord := List.getLast_mem ne
  have r := f.rch _ (sub _ hz)
  cases r with
  | refl => exact n rfl
  | @step y _ ry hy =>
    have hyo : y ∈ ord := t.all hl ry
    obtain ⟨i, hi, e⟩ := List.getElem_of_mem hyo
    have m := t.ahead i y (by rw [← e]; exact List.getElem?_eq_getElem hi) _ hy
    obtain ⟨j, hj, e2⟩ := List.getElem_of_mem m
    rw [List.length_take] at hj
    have e3 : ord[j]'(by omega) = ord.getLast ne := by rw [← e2, List.getElem_take]
    rw [List.getLast_eq_getElem] at e3
    have := nodup_inj t.nd _ _ e3
    omega
theorem rows_none {nx : Nat → List Nat} {S : Nat → Prop} {lead : Nat} {fnd ord : List Nat} (f : Fnd nx S lead fnd) (cl : ∀ l ∈ fnd, ∀ m ∈ nx l, m ∈ fnd) (stuck : ∀ l ∈ fnd, l ∉ ord → ∃ m ∈ nx l, m ∉ ord) (h : ord.length < fnd.length) :
    ∀ r : Nat → Nat, ¬ ∀ l, Reach nx lead l → ∀ m ∈ nx l, r m < r l := fun r hr => by
  have all : ∀ (n l : Nat), r l = n → l ∈ fnd → l ∈ ord := by
    intro n
    induction n using Nat.strongRecOn with
    | _ n ih =>
      intro l e hl
      apply Classical.byContradiction
      intro no
      obtain ⟨m, hm, no2⟩ := stuck l hl no
      exact no2 (ih (r m) (by have := hr l (f.rch l hl) m hm; omega) m rfl (cl l hl m hm))
  have := nodup_sub_len f.nd fun l hl => all _ l rfl hl
  omega
/-- along a choice something can be told of each class by its needed ones -/
theorem topo {α : Type} (d : α) {nx : Nat → List Nat} (F : Nat → (Nat → α) → α) (hF : ∀ l f g, (∀ m ∈ nx l, f m = g m) → F l f = F l g) : ∀ (ord : List Nat), Top nx ord → ∃ f : Nat → α, ∀ l ∈ ord, f l = F l f := by
  intro ord
  have gen : ∀ n, n ≤ ord.length → Top nx ord → ∃ f : Nat → α, ∀ l ∈ ord.take n, f l = F l f := by
    intro n
    induction n with
    | zero => intro _ _; exact ⟨fun _ => d, fun l h => by simp at h⟩
    | succ n ih =>
      intro hn t
      obtain ⟨f, hf⟩ := ih (by omega) t
      have e : ord[n]? = some ord[n] := List.getElem?_eq_getElem (by omega)
      refine ⟨fun l => if l = ord[n] then F l f else f l, fun l hl => ?_⟩
      have fr : ord[n] ∉ ord.take n := fun hm => by
        obtain ⟨j, hj, e2⟩ := List.getElem_of_mem hm
        rw [List.length_take] at hj
        rw [List.getElem_take] at e2
        have := nodup_inj t.nd (by omega) (by omega) e2
        omega
      have same : ∀ m ∈ ord.take n, (if m = ord[n] then F m f else f m) = f m := fun m hm => if_neg fun z => fr (by rw [← z]; exact hm)
      have nb : ∀ l ∈ ord.take (n + 1), ∀ m ∈ nx l, m ∈ ord.take n := fun l hl m hm => by
        obtain ⟨j, hj, e2⟩ := List.getElem_of_mem hl
        rw [List.length_take] at hj
        rw [List.getElem_take] at e2
        have := t.ahead j l (by rw [← e2]; exact List.getElem?_eq_getElem (by omega)) m hm
        have tt : ord.take j = (ord.take n).take j := by rw [List.take_take, Nat.min_eq_left (by omega)]
        rw [tt] at this
        exact List.mem_of_mem_take this
      have ag : F l (fun l => if l = ord[n] then F l f else f l) = F l f := hF l _ _ fun m hm => same m (nb l hl m hm)
      rw [ag]
      by_cases z : l = ord[n]
      · exact if_pos z
      · show (if l = ord[n] then F l f else f l) = _
        rw [if_neg z]
        refine hf l ?_
        rw [List.take_succ, e, Option.toList_some] at hl
        rcases List.mem_append.mp hl with h | h
        · exact h
        · simp at h; exact absurd h z
  intro t
  obtain ⟨f, hf⟩ := gen ord.length (Nat.le_refl _) t
  rw [List.take_length] at hf
  exact ⟨f, hf⟩
end SW
namespace SW
open PySem PySem.Spec L2 AL
/-- the leads that the pick of a class needs -/
def nxF (ts : List Tm) (ls : List Nat) (p : Nat → Option Nat) (l : Nat) : List Nat := (arms (tmAt ts ((p l).getD 0))).map (Lf ls)
structure PkOk (ts : List Tm) (ls : List Nat) (p : Nat → Option Nat) (S : Nat → Prop) : Prop where
  h : ∀ l, S l → l < ts.length ∧ ∃ m, p l = some m ∧ m < ts.length ∧ ∀ a ∈ arms (tmAt ts m), S (Lf ls a)
theorem PkOk.nx {ts : List Tm} {ls : List Nat} {p : Nat → Option Nat} {S : Nat → Prop} (o : PkOk ts ls p S) {l m : Nat} (hl : S l) (hm : m ∈ nxF ts ls p l) : S m := by
  obtain ⟨_, k, hk, _, h⟩ := o.h l hl
  unfold nxF at hm
  rw [hk] at hm
  obtain ⟨a, ha, rfl⟩ := List.mem_map.mp hm
  exact h a ha
def tI (b : Nat → Prop) [DecidablePred b] : Nat → Option W := fun j => if b j then some (.bl true) else none
theorem tI_add (xs : List Nat) (x y : Nat) : (if y = x then some (W.bl true) else tI (· ∈ xs) y) = tI (· ∈ xs ++ [x]) y := by
  unfold tI
  by_cases e : y = x
  · subst e; simp
  · simp [e]
section
variable {P : Program} {w : World} {K : PySem.W.Frag} {mg : Str → Option Value} {base : Heap}
abbrev sNl : Stmt := top 16
theorem sc_nl : FnScope ["terms", "leads", "picks", "lead", "found", "seen", "at", "arm"] ["terms", "leads", "picks", "lead"] (defScope sNl) := ⟨rfl, rfl, rfl, by decide +kernel, rfl, by decide +kernel, by decide +kernel⟩
/-- terms, leads, picks as they are handed in -/
structure PkIn (G : AH) (t l pd : W) (ts : List Tm) (ls : List Nat) (p : Nat → Option Nat) (S : Nat → Prop) : Prop where
  hT : LsA G t (tW ts)
  hL : LsA G l (nW ls)
  hP : ∃ kws N, DkA G pd kws ∧ DI N kws (bI p)
  O : LsOk ts ls
  P : PkOk ts ls p S
theorem PkIn.new {G : AH} {t l pd : W} {ts : List Tm} {ls : List Nat} {p : Nat → Option Nat} {S : Nat → Prop} {a : Addr} {o : AO} (h : PkIn G t l pd ts ls p S) (ha : G a = none) : PkIn (aup G a o) t l pd ts ls p S :=
  ⟨h.hT.new ha, h.hL.new ha, (let ⟨k, N, h1, h2⟩ := h.hP; ⟨k, N, h1.new ha, h2⟩), h.O, h.P⟩
theorem PkIn.sub {G G' : AH} {t l pd : W} {ts : List Tm} {ls : List Nat} {p : Nat → Option Nat} {S : Nat → Prop} (h : PkIn G t l pd ts ls p S) (s : Sub G G') : PkIn G' t l pd ts ls p S :=
  ⟨h.hT.sub s, h.hL.sub s, (let ⟨k, N, h1, h2⟩ := h.hP; ⟨k, N, h1.sub s, h2⟩), h.O, h.P⟩
def spNl : ASp := fun ws G K _ => ∃ (t l pd : W) (ts : List Tm) (ls : List Nat) (p : Nat → Option Nat) (S : Nat → Prop) (lead : Nat), ws = [t, l, pd, .int lead] ∧ PkIn G t l pd ts ls p S ∧ S lead ∧
  ∀ fnd, Fnd (nxF ts ls p) S lead fnd → (∀ x ∈ fnd, ∀ m ∈ nxF ts ls p x, m ∈ fnd) → K (.lst (nW fnd)) G
theorem ok_nl {f : Addr} {fd : FuncData} (F : Fun K "needed_leads" "needed_leads" sNl f fd) (B : Bl mg) (CA : Cal P w K mg base "arms_of" 1 ["term"] spArms) : FnOk P w K mg base CX0 2 f fd ["terms", "leads", "picks", "lead"] (low ⟨P, w, K⟩ spNl) := by
  refine fnA_of F sc_nl (fun ws G Kc KE ⟨t, l, pd, ts, ls, p, S, lead, e, _⟩ => by rw [e]; rfl) fun cdv A outer s H E ws G Kc KE hr ⟨t, l, pd, ts, ls, p, S, lead, e, I, hS, k⟩ => ?_
  subst e
  have many := I.O.T.many
  refine s_cons (s_set (i := 4) sc_nl.nd (q_lst (a_cons (qv 3 rfl (a_nil fun a ha => ?_)))))
  refine s_cons (s_set (i := 5) sc_nl.nd (q_disp1 fun d hd => qv 3 rfl (q_bl ⟨_, keyW_nat _, aup_same, ?_⟩)))
  rw [aup_aup]
  obtain ⟨hd0, hda⟩ := aup_free hd
  refine s_cons (s_set (i := 6) sc_nl.nd (q_int ?_))
  have hlt : ∀ x, S x → x < ts.length := fun x hx => (I.P.h x hx).1
  let nx := nxF ts ls p
  have fl : ∀ fnd, Fnd nx S lead fnd → fnd.length ≤ ts.length := fun fnd f => nodup_below _ _ f.nd fun x hx => hlt x (f.ok x hx)
  let Pw : Nat → AS → AH → Prop := fun m ρ' G' => ∃ (fnd : List Nat) (dk : List (Key × W)) (i : Nat) (v : Option W), ρ' = [some t, some l, some pd, some (.int lead), some (.ref a), some (.ref d), some (.int i), v] ∧ G' = aup (aup G a (.lst (nW fnd))) d (.dK dk) ∧
    Fnd nx S lead fnd ∧ DI ts.length dk (tI (· ∈ fnd)) ∧ i ≤ fnd.length ∧ (∀ x ∈ fnd.take i, ∀ m ∈ nx x, m ∈ fnd) ∧ m = ts.length + 1 - i
  have D1 : DI ts.length [((.inl (lead : Int) : Key), W.bl true)] (tI (· ∈ [lead])) := ((DI.nil ts.length).put (hlt lead hS) (.bl true)).cong fun j => by
    unfold tI
    by_cases e : j = lead
    · subst e; simp
    · simp [e]
  refine s_cons (s_whileN PassesOwn.never Pw (ts.length + 1) ⟨[lead], _, 0, none, rfl, rfl, Fnd.one hS, D1, Nat.zero_le _, fun x hx => by simp at hx, rfl⟩ ?_)
  rintro m ρ0 G0 ⟨fnd, dk, i, v, e1, e2, f0, D0, hi, cl, em⟩
  subst e1 e2
  have hfa : ∀ (fnd' : List Nat) (dk' : List (Key × W)), (aup (aup G a (.lst (nW fnd'))) d (.dK dk')) a = some (.lst (nW fnd')) := fun _ _ => aup_old hda.symm aup_same
  refine b_lt (qv 6 rfl (q_len B.len (a_cons (qv 4 rfl (a_nil ⟨_, hfa fnd dk, ?_⟩)))))
  rw [nW_length]
  refine ifB_dec (fun hlt' => ?_) (fun hge => ?_)
  · have hi' : i < fnd.length := by omega
    let x := fnd.getD i 0
    have hx : fnd[i]? = some x := at_of hi'
    have hxm : x ∈ fnd := List.mem_of_getElem? hx
    obtain ⟨hx0, pm, hp1, hp2, hp3⟩ := I.P.h x (f0.ok x hxm)
    obtain ⟨kws, N, hP, DP⟩ := I.hP
    have tm := at_of (d := Tm.num 0) hp2
    have nxe : nx x = (arms (tmAt ts pm)).map (Lf ls) := by show nxF ts ls p x = _; unfold nxF; rw [hp1]; rfl
    have Sx : Sub G (aup (aup G a (.lst (nW fnd))) d (.dK dk)) := sub2 ha hd0
    have I1 := I.sub Sx
    refine s_cons (s_for PassesOwn.never rfl (i_tup (q_cal CA hr (a_cons (q_ix (qv 0 rfl (q_dget (u64 hr) (qv 2 rfl (q_ix (qv 4 rfl (qv 6 rfl ?_)))))))))))
    refine fIx_ls (hfa fnd dk) (nW_at hi') ?_
    refine ⟨kws, _, .int pm, hP.sub Sx, keyW_nat _, by rw [DP.get]; show (p x).map _ = _; rw [hp1]; rfl, ?_⟩
    refine fIx_ls I1.hT (tW_at tm) ?_
    refine a_nil ⟨tmAt ts pm, rfl, ?_⟩
    have hia : ∀ b ∈ arms (tmAt ts pm), b < ls.length := (mk_arms I.O.T (ls := ls) I.O.g.len tm).1
    refine ⟨fun j ρ' G' => ∃ (fnd' : List Nat) (dk' : List (Key × W)) (v : Option W), ρ' = [some t, some l, some pd, some (.int lead), some (.ref a), some (.ref d), some (.int i), v] ∧ G' = aup (aup G a (.lst (nW fnd'))) d (.dK dk') ∧ Fnd nx S lead fnd' ∧ DI ts.length dk' (tI (· ∈ fnd')) ∧ (∃ more, fnd' = fnd ++ more) ∧
      (∀ b ∈ (arms (tmAt ts pm)).take j, Lf ls b ∈ fnd'), ⟨fnd, dk, v, rfl, rfl, f0, D0, ⟨[], by simp⟩, fun b hb => by simp at hb⟩, fun _ _ _ _ _ => trivial, fun j z ρ' G' hz ⟨fnd', dk', v, e1, e2, f1, D1, ⟨more, hmore⟩, ht⟩ => ?_, fun ρ' G' ⟨fnd', dk', v, e1, e2, f1, D1, ⟨more, hmore⟩, ht⟩ => ?_⟩
    · obtain ⟨b, hb, rfl⟩ := nW_item hz
      subst e1 e2
      have hbm := List.mem_of_getElem? hb
      have hbl := hia b hbm
      have Sx' : Sub G (aup (aup G a (.lst (nW fnd'))) d (.dK dk')) := sub2 ha hd0
      have I2 := I.sub Sx'
      have hSb : S (Lf ls b) := hp3 b hbm
      have tk : (arms (tmAt ts pm)).take (j + 1) = (arms (tmAt ts pm)).take j ++ [b] := by rw [List.take_succ, hb]; rfl
      have hxm' : x ∈ fnd' := by rw [hmore]; exact List.mem_append_left _ hxm
      refine g_name (i := 7) sc_nl.nd ?_
      refine s_cons (s_if (b_dnin (u64 hr) (q_ix (qv 1 rfl (qv 7 rfl (fIx_ls I2.hL (nW_at hbl) ?_))))))
      refine qv 5 rfl ⟨dk', _, .inl aup_same, keyW_nat _, ?_⟩
      rw [D1.get]
      by_cases hin : ls.getD b 0 ∈ fnd'
      · have e0 : tI (· ∈ fnd') (ls.getD b 0) = some (.bl true) := if_pos hin
        rw [e0]
        refine ifF (s_nil (s_nil ⟨fnd', dk', _, rfl, rfl, f1, D1, ⟨more, hmore⟩, fun y hy => ?_⟩))
        rw [tk] at hy
        rcases List.mem_append.mp hy with hy | hy
        · exact ht y hy
        · simp at hy; subst hy; exact hin
      · have e0 : tI (· ∈ fnd') (ls.getD b 0) = none := if_neg hin
        rw [e0]
        have hnx : Lf ls b ∈ nx x := by rw [nxe]; exact List.mem_map_of_mem hbm
        have f2 := f1.add hxm' hnx hin hSb
        refine ifT (s_cons (s_asg (q_bl (g_dput (u64 hr) (qv 5 rfl (q_ix (qv 1 rfl (qv 7 rfl (fIx_ls I2.hL (nW_at hbl) ?_)))))))))
        refine ⟨dk', _, aup_same, keyW_nat _, D1.small (by omega), ?_⟩
        rw [aup_aup]
        refine s_cons (s_expr (q_append (qv 4 rfl ⟨a, _, rfl, hfa fnd' _, ?_⟩)))
        refine a_cons (q_ix (qv 1 rfl (qv 7 rfl (fIx_ls (I.sub (sub2 (o := .lst (nW fnd')) (u := .dK (pk dk' (.inl ((ls.getD b 0 : Nat) : Int)) (.bl true))) ha hd0)).hL (nW_at hbl) ?_))))
        refine a_nil ⟨_, hfa fnd' _, ?_, ?_⟩
        · rw [nW_length]; exact Nat.lt_of_le_of_lt (Nat.le_trans (fl _ f1) many) (by decide)
        rw [aup2 hda.symm]
        have en : nW fnd' ++ [W.int ((ls.getD b 0 : Nat) : Int)] = nW (fnd' ++ [ls.getD b 0]) := by simp [nW]
        rw [en]
        refine s_nil (s_nil ⟨_, _, _, rfl, rfl, f2, (D1.put (hlt _ hSb) _).cong fun y => ?_, ⟨more ++ [ls.getD b 0], by rw [hmore, List.append_assoc]⟩, fun y hy => ?_⟩)
        · exact tI_add fnd' (ls.getD b 0) y
        · rw [tk] at hy
          rcases List.mem_append.mp hy with hy | hy
          · exact List.mem_append_left _ (ht y hy)
          · simp at hy; subst hy; simp
    · rw [nW_length, List.take_length] at ht
      subst e1 e2
      refine s_cons (s_addI (i := 6) (z := i) sc_nl.nd rfl (q_int ?_))
      have l1 := fl _ f1
      have l2 : fnd.length ≤ fnd'.length := by rw [hmore, List.length_append]; omega
      refine s_nil ⟨ts.length + 1 - (i + 1), by omega, fnd', dk', i + 1, _, rfl, rfl, f1, D1, by omega, fun y hy m hm => ?_, rfl⟩
      have tk : fnd'.take (i + 1) = fnd.take i ++ [x] := by
        rw [hmore, List.take_append_of_le_length (by omega), List.take_succ, hx]; rfl
      rw [tk] at hy
      rcases List.mem_append.mp hy with hy | hy
      · rw [hmore]; exact List.mem_append_left _ (cl y hy m hm)
      · simp at hy; subst hy
        rw [nxe] at hm
        obtain ⟨b, hb, rfl⟩ := List.mem_map.mp hm
        exact ht b hb
  · have hi' : i = fnd.length := by omega
    subst hi'
    rw [List.take_length] at cl
    refine s_cons (s_retV (qv 4 rfl ⟨_, hfa fnd dk, G, fun q v e => ?_, k fnd f0 cl⟩))
    rw [adel_ne (ane_none e ha), aup_ne (ane_none e hd0), aup_ne (ane_none e ha)]; exact e
end
end SW
namespace SW
open PySem PySem.Spec L2 AL
def rwW (p : Nat → Option Nat) (ord : List Nat) : List W := ord.map fun (x : Nat) => W.tup [.int x, .int ((p x).getD 0 : Nat)]
def oR (p : Nat → Option Nat) : Option (List Nat) → W
  | none => .non
  | some ord => .lst (rwW p ord)
theorem rwW_length (p : Nat → Option Nat) (ord : List Nat) : (rwW p ord).length = ord.length := by simp [rwW]
section
variable {P : Program} {w : World} {K : PySem.W.Frag} {mg : Str → Option Value} {base : Heap}
abbrev sRb : Stmt := top 17
abbrev nRb : List Str := ["terms", "leads", "picks", "lead", "wanted", "rows", "done", "grown", "one", "arm"]
theorem sc_rb : FnScope nRb ["terms", "leads", "picks", "lead"] (defScope sRb) := ⟨rfl, rfl, rfl, by decide +kernel, rfl, by decide +kernel, by decide +kernel⟩
def spRb : ASp := fun ws G K _ => ∃ (t l pd : W) (ts : List Tm) (ls : List Nat) (p : Nat → Option Nat) (S : Nat → Prop) (lead : Nat), ws = [t, l, pd, .int lead] ∧ PkIn G t l pd ts ls p S ∧ S lead ∧
  ∀ o, RowsP (nxF ts ls p) lead o → K (oR p o) G
theorem ok_rb {f : Addr} {fd : FuncData} (F : Fun K "rows_by" "rows_by" sRb f fd) (B : Bl mg) (CA : Cal P w K mg base "arms_of" 1 ["term"] spArms) (CN : Cal P w K mg base "needed_leads" 2 ["terms", "leads", "picks", "lead"] spNl) : FnOk P w K mg base CX0 3 f fd ["terms", "leads", "picks", "lead"] (low ⟨P, w, K⟩ spRb) := by
  refine fnA_of F sc_rb (fun ws G Kc KE ⟨t, l, pd, ts, ls, p, S, lead, e, _⟩ => by rw [e]; rfl) fun cdv A outer s H E ws G Kc KE hr ⟨t, l, pd, ts, ls, p, S, lead, e, I, hS, k⟩ => ?_
  subst e
  have many := I.O.T.many
  have hr1 : Room 1 _ := hr.mono (by decide)
  let nx := nxF ts ls p
  have hlt : ∀ x, S x → x < ts.length := fun x hx => (I.P.h x hx).1
  refine s_cons (s_set (i := 4) sc_rb.nd (q_cal CN hr (a_cons (qv 0 rfl (a_cons (qv 1 rfl (a_cons (qv 2 rfl (a_cons (qv 3 rfl (a_nil ⟨t, l, pd, ts, ls, p, S, lead, rfl, I, hS, fun fnd f0 cl => ?_⟩)))))))))))
  have fl : fnd.length ≤ ts.length := nodup_below _ _ f0.nd fun x hx => hlt x (f0.ok x hx)
  refine s_cons (s_set (i := 5) sc_rb.nd (q_lst (a_nil fun a ha => ?_)))
  refine s_cons (s_set (i := 6) sc_rb.nd (q_dnew fun d hd => ?_))
  obtain ⟨hd0, hda⟩ := aup_free hd
  refine s_cons (s_set (i := 7) sc_rb.nd (q_bl ?_))
  have hfa : ∀ (o : AO) (o' : AO), (aup (aup G a o) d o') a = some o := fun _ _ => aup_old hda.symm aup_same
  let stuck : List Nat → Prop := fun ord => ∀ x ∈ fnd, x ∉ ord → ∃ m ∈ nx x, m ∉ ord
  let Pw : Nat → AS → AH → Prop := fun m ρ' G' => ∃ (ord : List Nat) (dk : List (Key × W)) (g : Bool) (v v' : Option W), ρ' = [some t, some l, some pd, some (.int lead), some (.lst (nW fnd)), some (.ref a), some (.ref d), some (.bl g), v, v'] ∧ G' = aup (aup G a (.lst (rwW p ord))) d (.dK dk) ∧
    Top nx ord ∧ (∀ x ∈ ord, x ∈ fnd) ∧ DI ts.length dk (tI (· ∈ ord)) ∧ ((g = true ∧ m = fnd.length - ord.length + 1) ∨ (g = false ∧ m = 0 ∧ stuck ord))
  refine s_cons (s_whileN PassesOwn.never Pw (fnd.length + 1) ⟨[], [], true, none, none, rfl, rfl, Top.nil, (fun x hx => by cases hx), (DI.nil _).cong fun j => by simp [tI], .inl ⟨rfl, rfl⟩⟩ ?_)
  rintro m ρ0 G0 ⟨ord, dk, g, v, v', e1, e2, t0, sub0, D0, alt⟩
  subst e1 e2
  refine b_val (qv 7 rfl ?_)
  refine ifB_of (fun hg => ?_) (fun hg => ?_)
  · subst hg
    have em : m = fnd.length - ord.length + 1 := by
      rcases alt with ⟨_, h⟩ | ⟨h, _⟩
      · exact h
      · cases h
    refine s_cons (s_set (i := 7) sc_rb.nd (q_bl ?_))
    refine s_cons (s_for PassesOwn.never rfl (i_rev rfl B.reversed (qv 4 rfl ⟨nW fnd, rfl, ?_⟩)))
    have rv : (nW fnd).reverse = nW fnd.reverse := by simp [nW]
    rw [rv]
    refine ⟨fun i ρ' G' => ∃ (ord' : List Nat) (dk' : List (Key × W)) (g' : Bool) (v v' : Option W), ρ' = [some t, some l, some pd, some (.int lead), some (.lst (nW fnd)), some (.ref a), some (.ref d), some (.bl g'), v, v'] ∧ G' = aup (aup G a (.lst (rwW p ord'))) d (.dK dk') ∧
      Top nx ord' ∧ (∀ x ∈ ord', x ∈ fnd) ∧ DI ts.length dk' (tI (· ∈ ord')) ∧ ((g' = true ∧ ord.length < ord'.length) ∨ (g' = false ∧ ord' = ord ∧ ∀ x ∈ fnd.reverse.take i, x ∉ ord → ∃ m ∈ nx x, m ∉ ord)), ⟨ord, dk, false, v, v', rfl, rfl, t0, sub0, D0, .inr ⟨rfl, rfl, fun x hx => by simp at hx⟩⟩,
      fun _ _ _ _ _ => rfl, fun i z ρ' G' hz ⟨ord', dk', g', v, v', e1, e2, t1, sub1, D1, alt1⟩ => ?_, fun ρ' G' ⟨ord', dk', g', v, v', e1, e2, t1, sub1, D1, alt1⟩ => ?_⟩
    · obtain ⟨x, hx, rfl⟩ := nW_item hz
      subst e1 e2
      have hxf : x ∈ fnd := List.mem_reverse.mp (List.mem_of_getElem? hx)
      obtain ⟨hx0, pm, hp1, hp2, hp3⟩ := I.P.h x (f0.ok x hxf)
      obtain ⟨kws, N, hP, DP⟩ := I.hP
      have tm := at_of (d := Tm.num 0) hp2
      have nxe : nx x = (arms (tmAt ts pm)).map (Lf ls) := by show nxF ts ls p x = _; unfold nxF; rw [hp1]; rfl
      have Sx : ∀ o o', Sub G (aup (aup G a o) d o') := fun _ _ => sub2 ha hd0
      have tk : fnd.reverse.take (i + 1) = fnd.reverse.take i ++ [x] := by rw [List.take_succ, hx]; rfl
      have hia : ∀ b ∈ arms (tmAt ts pm), b < ls.length := (mk_arms I.O.T (ls := ls) I.O.g.len tm).1
      have har4 := (mk_arms I.O.T (ls := ls) I.O.g.len tm).2
      have hpx : bI p x = some (.int pm) := by show (p x).map _ = _; rw [hp1]; rfl
      refine g_name (i := 8) sc_rb.nd ?_
      have skip : (x ∈ ord' ∨ ∃ m ∈ nx x, m ∉ ord') → ((g' = true ∧ ord.length < ord'.length) ∨ (g' = false ∧ ord' = ord ∧ ∀ x ∈ fnd.reverse.take (i + 1), x ∉ ord → ∃ m ∈ nx x, m ∉ ord)) := fun hs => by
        rcases alt1 with h | ⟨h1, h2, h3⟩
        · exact .inl h
        · refine .inr ⟨h1, h2, fun y hy hn => ?_⟩
          rw [tk] at hy
          rcases List.mem_append.mp hy with hy | hy
          · exact h3 y hy hn
          · simp at hy; subst hy
            subst h2
            rcases hs with hs | hs
            · exact absurd hs hn
            · exact hs
      refine s_cons (s_if (WQ.test (w_and (b_dnin (u64 hr) (qv 8 rfl (qv 6 rfl ⟨dk', _, .inl aup_same, keyW_nat _, ?_⟩))))))
      rw [D1.get]
      by_cases hin : x ∈ ord'
      · have e0 : tI (· ∈ ord') x = some (.bl true) := if_pos hin
        rw [e0]
        exact ifF (ifF (s_nil (s_nil ⟨ord', dk', g', _, _, rfl, rfl, t1, sub1, D1, skip (.inl hin)⟩)))
      · have e0 : tI (· ∈ ord') x = none := if_neg hin
        rw [e0]
        refine ifT (w_and1 (b_val (q_all B.all (a_cons (q_v (q_lc sc_rb.nd (blkOk_by (N := nRb) (sc := defScope sRb) (own := [("arm", 9)]) (by decide +kernel)) (i_tup (q_cal CA hr1 (a_cons (q_ix (qv 0 rfl (q_dget (u64 hr) (qv 2 rfl (qv 8 rfl ?_))))))))))))))
        refine ⟨kws, _, .int pm, hP.sub (Sx _ _), keyW_nat _, by rw [DP.get]; exact hpx, ?_⟩
        refine fIx_ls (I.hT.sub (Sx _ _)) (tW_at tm) ?_
        refine a_nil ⟨tmAt ts pm, rfl, ?_⟩
        refine lk_mapZ (zs := arms (tmAt ts pm)) (fun (k : Nat) => W.int k) (fun k => W.bl (decide (Lf ls k ∈ ord'))) sc_rb.nd (Nat.le_trans har4 (by decide)) (fun _ _ _ => trivial) (fun z hz D ws hD s0 H0 C cl fp => ?_) (fun D hD => ?_)
        · refine q_din (u64 hr) (q_ix (qv 1 rfl (qv 9 rfl (fIx_ls ((I.hL.sub (Sx _ _)).new hD) (nW_at (hia z hz)) ?_))))
          refine qv 6 rfl ⟨dk', _, .inl (aup_new hD aup_same), keyW_nat _, ?_⟩
          rw [D1.get]
          refine ⟨?_, rfl⟩
          show W.bl (tI (· ∈ ord') (ls.getD z 0)).isSome = _
          unfold tI
          by_cases e : ls.getD z 0 ∈ ord'
          · rw [if_pos e, decide_eq_true e]; rfl
          · rw [if_neg e, decide_eq_false e]; rfl
        · refine frz_new hD (a_nil ⟨(arms (tmAt ts pm)).map fun k => decide (Lf ls k ∈ ord'), by rw [List.map_map]; rfl, ?_⟩)
          refine ifB_of (fun hall => ?_) (fun hall => ?_)
          · have hall' : ∀ m ∈ nx x, m ∈ ord' := fun m hm => by
              rw [nxe] at hm
              obtain ⟨b, hb, rfl⟩ := List.mem_map.mp hm
              have := List.all_eq_true.mp hall _ (List.mem_map_of_mem hb)
              exact of_decide_eq_true this
            have ol : ord'.length < ts.length := by
              have := nodup_sub_len (a := x :: ord') (b := fnd) (List.nodup_cons.mpr ⟨hin, t1.nd⟩) fun y hy => by
                rcases List.mem_cons.mp hy with e | hy
                · rw [e]; exact hxf
                · exact sub1 y hy
              rw [List.length_cons] at this; omega
            refine s_cons (s_expr (q_append (qv 5 rfl ⟨a, _, rfl, hfa _ _, ?_⟩)))
            refine a_cons (q_tup (a_cons (qv 8 rfl (a_cons (q_dget (u64 hr) (qv 2 rfl (qv 8 rfl ?_)))))))
            refine ⟨kws, _, .int pm, hP.sub (Sx _ _), keyW_nat _, by rw [DP.get]; exact hpx, ?_⟩
            refine a_nil (a_nil ⟨_, hfa _ _, ?_, ?_⟩)
            · rw [rwW_length]; exact Nat.lt_of_le_of_lt (show ord'.length ≤ 400 by omega) (by decide)
            rw [aup2 hda.symm]
            have en : rwW p ord' ++ [W.tup [W.int ((x : Nat) : Int), W.int ((pm : Nat) : Int)]] = rwW p (ord' ++ [x]) := by simp [rwW, hp1]
            rw [en]
            refine s_cons (s_asg (q_bl (g_dput (u64 hr) (qv 6 rfl (qv 8 rfl ⟨dk', _, aup_same, keyW_nat _, D1.small (by omega), ?_⟩)))))
            rw [aup_aup]
            refine s_cons (s_set (i := 7) sc_rb.nd (q_bl ?_))
            refine s_nil (s_nil ⟨ord' ++ [x], _, true, _, _, rfl, rfl, t1.add hin hall', fun y hy => ?_, (D1.put hx0 _).cong fun y => tI_add ord' x y, .inl ⟨rfl, ?_⟩⟩)
            · rcases List.mem_append.mp hy with hy | hy
              · exact sub1 y hy
              · simp at hy; subst hy; exact hxf
            · rw [List.length_append, List.length_singleton]
              rcases alt1 with ⟨_, h⟩ | ⟨_, h, _⟩
              · omega
              · rw [h]; omega
          · refine s_nil (s_nil ⟨ord', dk', g', _, _, rfl, rfl, t1, sub1, D1, skip (.inr ?_)⟩)
            obtain ⟨bb, hb, hf⟩ := List.all_eq_false.mp hall
            obtain ⟨b, hb2, rfl⟩ := List.mem_map.mp hb
            refine ⟨Lf ls b, by rw [nxe]; exact List.mem_map_of_mem hb2, ?_⟩
            simpa using hf
    · rw [nW_length, List.take_length] at alt1
      subst e1 e2
      refine s_nil ?_
      rcases alt1 with ⟨h1, h2⟩ | ⟨h1, h2, h3⟩
      · subst h1
        have := nodup_sub_len t1.nd sub1
        exact ⟨fnd.length - ord'.length + 1, by omega, ord', dk', true, _, _, rfl, rfl, t1, sub1, D1, .inl ⟨rfl, rfl⟩⟩
      · subst h1 h2
        exact ⟨0, by omega, ord', dk', false, _, _, rfl, rfl, t1, sub1, D1, .inr ⟨rfl, rfl, fun x hx => h3 x (List.mem_reverse.mpr hx)⟩⟩
  · subst hg
    have st : stuck ord := by
      rcases alt with ⟨h, _⟩ | ⟨_, _, h⟩
      · cases h
      · exact h
    refine s_cons (s_if (b_lt (q_len B.len (a_cons (qv 5 rfl (a_nil ⟨_, hfa _ _, ?_⟩))))))
    refine q_len B.len (a_cons (qv 4 rfl (a_nil ?_)))
    have Sx : ∀ o o', Sub G (aup (aup G a o) d o') := fun _ _ => sub2 ha hd0
    rw [rwW_length]
    show ifB (decide ((ord.length : Int) < ((nW fnd).length : Int))) _ _
    rw [nW_length]
    refine ifB_dec (fun h => ?_) (fun h => ?_)
    · exact s_cons (s_ret (q_non ⟨G, Sx _ _, k none (rows_none f0 cl st (by omega))⟩))
    · refine s_nil (s_cons (s_retV (qv 5 rfl ⟨_, hfa _ _, G, fun q v e => ?_, k (some ord) (rows_some f0 t0 sub0 (by omega))⟩)))
      rw [adel_ne (ane_none e ha), aup_ne (ane_none e hd0), aup_ne (ane_none e ha)]; exact e
/-! ### cheapest -/
abbrev sCh : Stmt := top 18
theorem sc_ch : FnScope ["terms", "leads", "costs", "k", "best", "picks", "place", "term", "lead"] ["terms", "leads", "costs", "k"] (defScope sCh) := ⟨rfl, rfl, rfl, by decide +kernel, rfl, by decide +kernel, by decide +kernel⟩
/-- the picks of the first m places -/
def pkStep (ts : List Tm) (ls : List Nat) (c : Tm → Nat) (B : Nat → Nat) (p : Nat → Option Nat) (k : Nat) : Nat → Option Nat := if p (Lf ls k) = none ∧ prN ts ls c B k = B (Lf ls k) then updB p (Lf ls k) k else p
def pkPass (ts : List Tm) (ls : List Nat) (c : Tm → Nat) (B : Nat → Nat) : Nat → Nat → Option Nat
  | 0 => fun _ => none
  | k + 1 => pkStep ts ls c B (pkPass ts ls c B k) k
/-- the first places of the least price -/
structure Pick (ts : List Tm) (ls : List Nat) (c : Tm → Nat) (B : Nat → Nat) (m : Nat) (p : Nat → Option Nat) : Prop where
  some_ : ∀ j k, p j = some k → k < m ∧ Lf ls k = j ∧ prN ts ls c B k = B j ∧ ∀ i, i < k → Lf ls i = j → prN ts ls c B i ≠ B j
  none_ : ∀ j, p j = none → ∀ k, k < m → Lf ls k = j → prN ts ls c B k ≠ B j
theorem pick_ok {ts : List Tm} {ls : List Nat} {c : Tm → Nat} {B : Nat → Nat} : ∀ m, Pick ts ls c B m (pkPass ts ls c B m)
  | 0 => ⟨(fun j k h => by cases h), fun j h k hk => absurd hk (Nat.not_lt_zero _)⟩
  | m + 1 => by
    have ih := pick_ok (ts := ts) (ls := ls) (c := c) (B := B) m
    show Pick ts ls c B (m + 1) (pkStep ts ls c B (pkPass ts ls c B m) m)
    unfold pkStep
    split
    · rename_i h
      refine ⟨fun j k e => ?_, fun j e k hk hl => ?_⟩
      · by_cases z : j = Lf ls m
        · subst z; rw [updB_same] at e; cases e
          exact ⟨by omega, rfl, h.2, fun i hi hl => ih.none_ _ h.1 i hi hl⟩
        · rw [updB_ne z] at e
          obtain ⟨a1, a2, a3, a4⟩ := ih.some_ j k e
          exact ⟨by omega, a2, a3, a4⟩
      · by_cases z : j = Lf ls m
        · subst z; rw [updB_same] at e; cases e
        · rw [updB_ne z] at e
          by_cases hk' : k < m
          · exact ih.none_ j e k hk' hl
          · have : k = m := by omega
            subst this; exact absurd hl.symm z
    · rename_i h
      refine ⟨fun j k e => ?_, fun j e k hk hl => ?_⟩
      · obtain ⟨a1, a2, a3, a4⟩ := ih.some_ j k e
        exact ⟨by omega, a2, a3, a4⟩
      · by_cases hk' : k < m
        · exact ih.none_ j e k hk' hl
        · have : k = m := by omega
          subst this
          subst hl
          exact fun z => h ⟨e, z⟩
end
end SW
namespace SW
open PySem PySem.Spec L2 AL
/-- what cheapest tells -/
structure ChR (ts : List Tm) (ls : List Nat) (c : Tm → Nat) (lead : Nat) (B : Nat → Nat) (p : Nat → Option Nat) (ord : List Nat) : Prop where
  best : ∃ b, Best ts ls c b B
  pick : Pick ts ls c B ts.length p
  ord : Ord (nxF ts ls p) lead ord
/-- a class by its lead -/
def isLd (ts : List Tm) (ls : List Nat) (l : Nat) : Prop := l < ts.length ∧ Lf ls l = l
theorem ld_of {ts : List Tm} {ls : List Nat} (O : LsOk ts ls) {k : Nat} (h : k < ts.length) : isLd ts ls (Lf ls k) := ⟨O.g.lt h, O.g.idem k h⟩
theorem arms_lt {ts : List Tm} {ls : List Nat} (O : LsOk ts ls) {k : Nat} (h : k < ts.length) {a : Nat} (ha : a ∈ arms (tmAt ts k)) : a < k := by
  have tm := at_of (d := Tm.num 0) h
  cases ht : tmAt ts k with
  | num n => rw [ht] at ha; cases ha
  | name n => rw [ht] at ha; cases ha
  | of w ks =>
    have ht : ts.getD k (Tm.num 0) = .of w ks := ht
    rw [ht] at tm
    rw [show tmAt ts k = .of w ks from ht] at ha
    exact O.T.wf k w ks tm a ha
theorem pick_at {ts : List Tm} {ls : List Nat} {c : Tm → Nat} {b : Nat → Option Nat} {B : Nat → Nat} {p : Nat → Option Nat} (be : Best ts ls c b B) (pi : Pick ts ls c B ts.length p) {l : Nat} (h : isLd ts ls l) : ∃ m, p l = some m ∧ m < ts.length ∧ Lf ls m = l ∧ prN ts ls c B m = B l ∧ ∀ i, i < m → Lf ls i = l → prN ts ls c B i ≠ B l := by
  cases e : p l with
  | none =>
    obtain ⟨m, h1, h2, h3⟩ := be.at' l h.1
    rw [h.2] at h2 h3
    exact absurd h3 (pi.none_ l e m h1 h2)
  | some m =>
    obtain ⟨a1, a2, a3, a4⟩ := pi.some_ l m e
    exact ⟨m, rfl, a1, a2, a3, a4⟩
theorem pick_pk {ts : List Tm} {ls : List Nat} {c : Tm → Nat} {b : Nat → Option Nat} {B : Nat → Nat} {p : Nat → Option Nat} (O : LsOk ts ls) (be : Best ts ls c b B) (pi : Pick ts ls c B ts.length p) : PkOk ts ls p (isLd ts ls) :=
  ⟨fun l h => ⟨h.1, let ⟨m, h1, h2, _⟩ := pick_at be pi h; ⟨m, h1, h2, fun a ha => ld_of O (Nat.lt_trans (arms_lt O h2 ha) h2)⟩⟩⟩
theorem pick_falls {ts : List Tm} {ls : List Nat} {c : Tm → Nat} {b : Nat → Option Nat} {B : Nat → Nat} {p : Nat → Option Nat} (O : LsOk ts ls) (hc : ∀ t, 1 ≤ c t) (be : Best ts ls c b B) (pi : Pick ts ls c B ts.length p) {l : Nat} (h : isLd ts ls l) {m : Nat} (hm : m ∈ nxF ts ls p l) : B m < B l := by
  obtain ⟨k, h1, h2, h3, h4, _⟩ := pick_at be pi h
  unfold nxF at hm
  rw [h1] at hm
  obtain ⟨a, ha, rfl⟩ := List.mem_map.mp hm
  have ha : a ∈ arms (tmAt ts k) := ha
  unfold prN at h4
  have := sum_mem_le (List.mem_map_of_mem (f := fun a => B (Lf ls a)) ha)
  have := hc (tmAt ts k)
  have e : B (Lf ls a) = (fun a => B (Lf ls a)) a := rfl
  omega
theorem reach_ok {ts : List Tm} {ls : List Nat} {p : Nat → Option Nat} {S : Nat → Prop} (P : PkOk ts ls p S) {lead l : Nat} (h : S lead) (r : Reach (nxF ts ls p) lead l) : S l := by
  induction r with
  | refl => exact h
  | step _ hm ih => exact P.nx ih hm
section
variable {P : Program} {w : World} {K : PySem.W.Frag} {mg : Str → Option Value} {base : Heap}
def spCh : ASp := fun ws G K _ => ∃ (t l d : W) (ts : List Tm) (ls : List Nat) (kws : List (Key × W)) (k : Nat), ws = [t, l, d, .int k] ∧ LsA G t (tW ts) ∧ LsA G l (nW ls) ∧ DkA G d kws ∧ CsOk kws ∧ LsOk ts ls ∧ k < ts.length ∧
  ∀ B p ord, ChR ts ls (cst kws) (Lf ls k) B p ord → K (.tup [.int (B (Lf ls k) : Nat), .lst (rwW p ord)]) G
theorem ok_ch {f : Addr} {fd : FuncData} (F : Fun K "cheapest" "cheapest" sCh f fd) (B : Bl mg) (CB : Cal P w K mg base "best_prices" 3 ["terms", "leads", "costs"] spBp) (CP : Cal P w K mg base "price_by" 2 ["term", "leads", "costs", "best"] spPb)
    (CR : Cal P w K mg base "rows_by" 3 ["terms", "leads", "picks", "lead"] spRb) : FnOk P w K mg base CX0 4 f fd ["terms", "leads", "costs", "k"] (low ⟨P, w, K⟩ spCh) := by
  refine fnA_of F sc_ch (fun ws G Kc KE ⟨t, l, d, ts, ls, kws, k, e, _⟩ => by rw [e]; rfl) fun cdv A outer s H E ws G Kc KE hr ⟨t, l, d, ts, ls, kws, k, e, hT, hL, hD, hC, O, hk, kk⟩ => ?_
  subst e
  have many := O.T.many
  have hr2 : Room 2 _ := hr.mono (by decide)
  refine s_cons (s_set (i := 4) sc_ch.nd (q_cal CB hr (a_cons (qv 0 rfl (a_cons (qv 1 rfl (a_cons (qv 2 rfl (a_nil ⟨t, l, d, ts, ls, kws, rfl, hT, hL, hD, hC, O, fun bp bk b Bf hbp DB be => ?_⟩)))))))))
  refine s_cons (s_set (i := 5) sc_ch.nd (q_dnew fun pp hpp => ?_))
  obtain ⟨hpp0, hpb⟩ := aup_free hpp
  let c := cst kws
  have Sx : ∀ o o', Sub G (aup (aup G bp o) pp o') := fun _ _ => sub2 hbp hpp0
  have hb : ∀ o o', (aup (aup G bp o) pp o') bp = some o := fun _ _ => aup_old hpb.symm aup_same
  refine s_cons (s_for PassesOwn.never rfl (i_enum rfl B.enumerate (qv 0 rfl ⟨_, hT.sub (Sx _ _), ?_⟩)))
  refine ⟨fun i ρ' G' => ∃ (pk : List (Key × W)) (v1 v2 v3 : Option W), ρ' = [some t, some l, some d, some (.int k), some (.ref bp), some (.ref pp), v1, v2, v3] ∧ G' = aup (aup G bp (.dK bk)) pp (.dK pk) ∧ DI ts.length pk (bI (pkPass ts ls c Bf i)), ⟨[], none, none, none, rfl, rfl, (DI.nil _).cong fun _ => rfl⟩,
    fun i ρ' G' _ ⟨_, _, _, _, _, e2, _⟩ => by rw [e2]; exact hT.sub (Sx _ _), fun i x ρ' G' hx ⟨pk, v1, v2, v3, e1, e2, DP⟩ => ?_, fun ρ' G' ⟨pk, v1, v2, v3, e1, e2, DP⟩ => ?_⟩
  · obtain ⟨tw, ht, rfl⟩ := enW_item hx
    obtain ⟨tm, htm, rfl⟩ := tW_item ht
    have hi : i < ts.length := (List.getElem?_eq_some_iff.mp htm).1
    have hil : i < ls.length := by rw [O.g.len]; exact hi
    subst e1 e2
    have har : ∀ k ∈ arms tm, k < ls.length := (mk_arms O.T (ls := ls) O.g.len htm).1
    have hlt : ls.getD i 0 < ts.length := O.g.lt hi
    have step : pkPass ts ls c Bf (i + 1) = pkStep ts ls c Bf (pkPass ts ls c Bf i) i := rfl
    generalize pkPass ts ls c Bf i = p0 at step DP ⊢
    refine g_tup rfl (gs_cons (g_name (i := 6) sc_ch.nd (gs_cons (g_name (i := 7) sc_ch.nd (gs_nil ?_)))))
    refine s_cons (s_set (i := 8) sc_ch.nd (q_ix (qv 1 rfl (qv 6 rfl (fIx_ls (hL.sub (Sx _ _)) (nW_at hil) ?_)))))
    refine s_cons (s_if (WQ.test (w_and (b_dnin (u64 hr) (qv 8 rfl (qv 5 rfl ⟨pk, _, .inl aup_same, keyW_nat _, ?_⟩))))))
    rw [DP.get]
    cases hp : p0 (ls.getD i 0) with
    | some v =>
      have e0 : bI p0 (ls.getD i 0) = some (.int v) := by unfold bI; rw [hp]; rfl
      rw [e0]
      have es : pkStep ts ls c Bf p0 i = p0 := by unfold pkStep; rw [if_neg (fun z => by rw [show p0 (Lf ls i) = some v from hp] at z; cases z.1)]
      rw [es] at step
      exact ifF (ifF (s_nil (s_nil ⟨pk, _, _, _, rfl, rfl, by rw [step]; exact DP⟩)))
    | none =>
      have e0 : bI p0 (ls.getD i 0) = none := by unfold bI; rw [hp]; rfl
      rw [e0]
      refine ifT (w_and1 (b_eq (u64 hr) (q_cal CP hr2 (a_cons (qv 7 rfl (a_cons (qv 1 rfl (a_cons (qv 2 rfl (a_cons (qv 4 rfl (a_nil ⟨tm, l, d, .ref bp, ls, kws, bk, ts.length, b, rfl, hL.sub (Sx _ _), hD.sub (Sx _ _), hC, .inl (hb _ _), DB, har, ?_⟩))))))))))))
      have pe : priceM (cst kws tm) ((arms tm).map fun a => b (Lf ls a)) = some (prN ts ls c Bf i) := by
        rw [← be.pr i hi]; unfold prO; rw [tmAt_of htm]
      rw [pe]
      refine q_dget (u64 hr) (qv 4 rfl (qv 8 rfl ⟨bk, _, .int (Bf (Lf ls i) : Nat), .inl (hb _ _), keyW_nat _, by rw [DB.get]; show (b (Lf ls i)).map _ = _; rw [be.val i hi]; rfl, ?_⟩))
      refine ifB_dec (fun h => ?_) (fun h => ?_)
      · have es : pkStep ts ls c Bf p0 i = updB p0 (Lf ls i) i := by unfold pkStep; rw [if_pos ⟨hp, by omega⟩]
        rw [es] at step
        refine s_cons (s_asg (qv 6 rfl (g_dput (u64 hr) (qv 5 rfl (qv 8 rfl ⟨pk, _, aup_same, keyW_nat _, DP.small (by omega), ?_⟩)))))
        rw [aup_aup]
        exact s_nil (s_nil ⟨_, _, _, _, rfl, rfl, by rw [step]; exact (DP.put hlt _).cong fun j => bI_upd j⟩)
      · have es : pkStep ts ls c Bf p0 i = p0 := by unfold pkStep; rw [if_neg fun z => h (by rw [z.2])]
        rw [es] at step
        exact s_nil (s_nil ⟨pk, _, _, _, rfl, rfl, by rw [step]; exact DP⟩)
  · rw [enW_length, tW_length] at DP
    subst e1 e2
    have pi := pick_ok (ts := ts) (ls := ls) (c := c) (B := Bf) ts.length
    generalize pkPass ts ls c Bf ts.length = p at pi DP
    have hkl : k < ls.length := by rw [O.g.len]; exact hk
    refine s_cons (s_ret (q_tup (a_cons (q_dget (u64 hr) (qv 4 rfl (q_ix (qv 1 rfl (qv 3 rfl (fIx_ls (hL.sub (Sx _ _)) (nW_at hkl) ?_)))))))))
    refine ⟨bk, _, .int (Bf (Lf ls k) : Nat), .inl (hb _ _), keyW_nat _, by rw [DB.get]; show (b (Lf ls k)).map _ = _; rw [be.val k hk]; rfl, ?_⟩
    refine a_cons (q_cal CR hr (a_cons (qv 0 rfl (a_cons (qv 1 rfl (a_cons (qv 5 rfl (a_cons (q_ix (qv 1 rfl (qv 3 rfl (fIx_ls (hL.sub (Sx _ _)) (nW_at hkl) ?_))))))))))) )
    refine a_nil ⟨t, l, .ref pp, ts, ls, p, isLd ts ls, Lf ls k, rfl, ⟨hT.sub (Sx _ _), hL.sub (Sx _ _), ⟨pk, ts.length, .inl aup_same, DP⟩, O, pick_pk O be pi⟩, ld_of O hk, fun o ho => ?_⟩
    cases o with
    | none => exact absurd (fun x hx m hm => pick_falls O (fun t => cst_pos hC t) be pi (reach_ok (pick_pk O be pi) (ld_of O hk) hx) hm) (ho Bf)
    | some ord => exact a_nil ⟨G, Sx _ _, kk Bf p ord ⟨⟨b, be⟩, pi, ho⟩⟩
end
end SW
namespace AL
open PySem PySem.Spec L2
open PyProof.Rows hiding St
def tListVals (te : TE) : TE := fun σ H Q => te σ H fun x H1 => ∃ (d : Addr) (kvs : List (Key × V)), x = .ref d ∧ H1 d = some (.dK kvs) ∧ ∀ p, H1 p = none → Q (.ref p) (upd H1 p (.lst (kvs.map (·.2))))
theorem vals_at {vs : List V} {us : List Value} (hl : us.length = vs.length) (h : ∀ (i : Nat) (v : V) (u : Value), vs[i]? = some v → us[i]? = some u → RelV v u) : Vals vs us := by
  induction vs generalizing us with
  | nil =>
    cases us with
    | nil => exact .nil
    | cons u us => cases hl
  | cons v vs ih =>
    cases us with
    | nil => cases hl
    | cons u us =>
      exact .cons (h 0 v u rfl rfl) (ih (Nat.succ.inj hl) fun i v' u' h1 h2 => h (i + 1) v' u' h1 h2)
section
variable {X : Cx} {e : Expr} {te : TE} {p apos cpos pos : Pos}
theorem vals_laid {pins : List (Addr × Obj)} {σ : L2.St} {H : Hp} {s : Shared} {h' : Heap} {tk : Nat} {kvs : List (Key × V)} {acc : Array Value} {c : Nat} (I : Inv X pins σ H s) (hz : kvs.length ≤ sizeLine)
    (hk : ∀ b o, s.heap.get? b = some o → h'.get? b = some o) (hS : h'.get? s.heap.objs.size = some { cls := .type "list", dict := none, data := .seq acc c, slots := #[] }) (hacc : Vals (kvs.map (·.2)) acc.toList) :
    H s.heap.objs.size = none ∧ Inv X pins σ (upd H s.heap.objs.size (.lst (kvs.map (·.2)))) { s with heap := h', toks := tk } := by
  have newS : H s.heap.objs.size = none := I.hok.fresh (Nat.le_refl _)
  have low : ∀ b o, s.heap.get? b = some o → b ≠ s.heap.objs.size := fun b o e => Nat.ne_of_lt (Heap.lt_size e)
  have kp : ∀ b u, H b = some u → (upd H s.heap.objs.size (.lst (kvs.map (·.2)))) b = some u := fun b u e => by
    rw [upd_ne fun z => by rw [z, newS] at e; cases e]
    exact e
  refine ⟨newS, ?_⟩
  refine I.call' (ch := []) rfl ⟨fun b o q _ _ _ => hk b o q, fun b o q _ _ _ => ⟨o.slots, hk b o q⟩, fun b o q n _ => ?_, fun b o q _ => ⟨o, hk b o q⟩, fun b xs q => kp b _ q, fun b o u q => kp b _ q, fun b ps q => ⟨#[], by rw [kp b _ q]; simp⟩⟩ (fun b u q => ?_) I.bare fun b z => by simp at z
  · rw [upd_ne (low b o q)]
    exact n
  · by_cases hb2 : b = s.heap.objs.size
    · rw [hb2] at q ⊢
      rw [upd_same] at q
      cases q
      refine ⟨by rw [List.length_map]; omega, acc.toList, c, hacc, ?_⟩
      rw [Array.toArray_toList]
      exact hS
    · rw [upd_ne hb2] at q
      exact (I.hok b u q).stay (fun d v _ y => hk d v y) (fun d y => kp d _ y) fun d xs y => kp d _ y
/-- list(e.values()) -/
theorem pe_listVals (hc : X.calm = true) (he : PE X e te) (hg : Gl X "list") (hm : X.mg "list" = none) (hv : bootBuiltins "list" = some (.type "list")) (hbase : attributeBase e "values" X.env (eval e X.env) = eval e X.env := by rfl) (hline : (apos.endLine == cpos.line) = true := by rfl)
    (hs : starEach [.Call (.Attribute e "values" apos) [] [] cpos] X.env = (false, eval (.Call (.Attribute e "values" apos) [] [] cpos) X.env) :: starEach [] X.env := by rfl) :
    PE X (.Call (.Name "list" p) [.Call (.Attribute e "values" apos) [] [] cpos] [] pos) (tListVals te) := by
  refine ⟨fun pins s σ H Q I hq => ?_⟩
  refine wpAny_Call_Name_kw (ld_blt I hg hm hv ?_)
  refine PyProof.Rows.callWith_type1 ?_ hs rfl
  rw [hs]
  show wpAny _ _ (spliced ((false, eval (.Call (.Attribute e "values" apos) [] [] cpos) X.env) :: backTo pos (starEach [] X.env))) _ _ s
  refine Calls.spliced_cons ?_
  refine wpAny_Call_method (T := "dict") (id := "dict.values") hbase rfl hline F.plainAttrs_dict F.slot_dict_values F.type_dict_values (thn (he.run pins s σ H _ I hq) fun u s1 ⟨x, H1, I1, rx, d, kvs, ex, hd, q⟩ => ?_)
  subst ex
  obtain rfl : u = Value.ref d := rx
  obtain ⟨hz, hs0, vs, kv, hdo⟩ := I1.hok d _ hd
  obtain ⟨es, ep, hraw, hsz, hat⟩ := hdo.raw
  have lk : kvs.length = vs.length := Paired.length kv
  have I2 : Inv X pins σ H1 { s1 with heap := s1.heap.push { cls := .type "dict_values", data := .fields #[.ref d] } } := I1.kept (t' := s1.toks) fun b ob q => Heap.get?_push_of_some _ q
  refine ⟨hdo.typeIs, hdo.mapOf.noDict, ?_⟩
  show wpAny _ _ (callWith cpos (.builtin "dict.values") [.ref d] [] []) _ X.xe s1
  refine method_meetsIn F.slot_dict_values F.entry_dict_values rfl (PySem.evalArgs_none ⟨rfl, hdo.typeIs, F.args_dict_values_1 _, _, meets_dict_values (mixKind X.prog X.w) d hs0, ⟨vs, hdo⟩, ?_⟩)
  refine Calls.spliced_nil ?_
  refine PySem.W.kdl_call (PySem.KdlSrc.rawValues (es := es) (ep := ep) (d := d)) (I1.ok.hd hc) ⟨⟨_, Heap.get?_push_size _ rfl, rfl, rfl⟩, hraw.push _⟩ (by omega) fun h' tk acc c hk hS hacc => ?_
  have va : Vals (kvs.map (·.2)) acc.toList := by
    refine vals_at ?_ fun i v u h1 h2 => ?_
    · rw [List.length_map, lk, ← hsz, Array.length_toList]; exact hacc.1
    · rw [List.getElem?_map] at h1
      obtain ⟨q1, hq1, rfl⟩ := Option.map_eq_some_iff.mp h1
      have h2' : acc[i]? = some u := by rw [← Array.getElem?_toList]; exact h2
      obtain ⟨hi, rfl⟩ := hacc.2 i u h2'
      obtain ⟨y, g1, g2, g3⟩ := LiI.paired_get kv hq1
      obtain ⟨_, e2⟩ := hat i hi y.1 y.2 g1
      rw [e2]
      exact g3
  obtain ⟨k1, J⟩ := vals_laid (tk := tk) I2 hz hk hS va
  exact ⟨.ref _, _, J, rfl, q _ k1⟩
end
theorem KWV.snds {H : Hp} {kws : List (Key × W)} {kvs : List (Key × V)} (r : KWV H kws kvs) : RVs H (kws.map (·.2)) (kvs.map (·.2)) := by
  unfold KWV at r
  induction r with
  | nil => exact RVs.nil
  | cons h t ih => exact .cons h.2 ih
section
variable {X : Cx} {e : Expr} {p apos cpos pos : Pos} {ρ : AS} {G : AH} {K : W → AH → Prop}
theorem q_listVals (hm : X.mg "list" = none) (h : EQ X e ρ G fun w G1 => ∃ d kws, w = .ref d ∧ G1 d = some (.dK kws) ∧ ∀ p, G1 p = none → K (.ref p) (aup G1 p (.lst (kws.map (·.2))))) (hc : X.calm = true := by rfl) (hg : Gl X "list" := by rfl)
    (hbase : attributeBase e "values" X.env (eval e X.env) = eval e X.env := by rfl) (hline : (apos.endLine == cpos.line) = true := by rfl)
    (hs : starEach [.Call (.Attribute e "values" apos) [] [] cpos] X.env = (false, eval (.Call (.Attribute e "values" apos) [] [] cpos) X.env) :: starEach [] X.env := by rfl) :
    EQ X (.Call (.Name "list" p) [.Call (.Attribute e "values" apos) [] [] cpos] [] pos) ρ G K :=
  EQ.of (pe_listVals hc pe_E hg hm (by decide +kernel) hbase hline hs) fun σ H rs rg => ⟨ρ, G, _, h, rs, rg, fun u H1 ⟨w, G1, k1, rx, rg1, d, kws, e, hd, q⟩ => by
    subst e
    obtain ⟨kvs, h1, h2⟩ := rg1 d _ hd
    exact ⟨d, kvs, rx, h1, fun p hp => ⟨.ref p, _, k1.trans (Keep.new hp), rfl, rg1.newL hp (KWV.snds h2), q p (rg1.free hp)⟩⟩⟩
end
end AL
namespace AL
open PySem PySem.Spec L2
open PyProof.Rows hiding St
/-! ### sorted(xs, key = a def of the text) -/
/-- what never changes, alone -/
def imm (H : Hp) : Hp := fun b => match H b with
  | some (.tup xs) => some (.tup xs)
  | some (.frz o (.lst xs)) => some (.frz o (.lst xs))
  | _ => none
theorem imm_t {H : Hp} {b : Addr} {xs : List V} (h : H b = some (.tup xs)) : imm H b = some (.tup xs) := by unfold imm; rw [h]
theorem imm_f {H : Hp} {b : Addr} {o : Obj} {xs : List V} (h : H b = some (.frz o (.lst xs))) : imm H b = some (.frz o (.lst xs)) := by unfold imm; rw [h]
theorem imm_none {H : Hp} {b : Addr} (h : H b = none) : imm H b = none := by unfold imm; rw [h]
theorem imm_or {H : Hp} {b : Addr} {u : HO} (h : H b = some u) : (∃ xs, u = .tup xs) ∨ (∃ o xs, u = .frz o (.lst xs)) ∨ imm H b = none := by
  unfold imm
  rw [h]
  cases u with
  | tup xs => exact .inl ⟨xs, rfl⟩
  | frz o u =>
    cases u with
    | lst xs => exact .inr (.inl ⟨o, xs, rfl⟩)
    | _ => exact .inr (.inr rfl)
  | _ => exact .inr (.inr rfl)
theorem imm_some {H : Hp} {b : Addr} {u : HO} (h : imm H b = some u) : H b = some u ∧ ((∃ xs, u = .tup xs) ∨ ∃ o xs, u = .frz o (.lst xs)) := by
  cases e : H b with
  | none => rw [imm_none e] at h; cases h
  | some v =>
    rcases imm_or e with ⟨xs, rfl⟩ | ⟨o, xs, rfl⟩ | n
    · rw [imm_t e] at h; cases h; exact ⟨rfl, .inl ⟨xs, rfl⟩⟩
    · rw [imm_f e] at h; cases h; exact ⟨rfl, .inr ⟨o, xs, rfl⟩⟩
    · rw [n] at h; cases h
mutual
theorem RV.imm {H : Hp} : ∀ (w : W) (v : V), RV H w v → RV (imm H) w v
  | .non, _, h => h
  | .bl _, _, h => h
  | .int _, _, h => h
  | .str _, _, h => h
  | .ref _, _, h => h
  | .ty _, _, h => h
  | .tup ws, v, ⟨a, vs, e, h, r⟩ => ⟨a, vs, e, imm_t h, RVs.imm ws vs r⟩
  | .lst ws, v, ⟨a, vs, e, ⟨o, h⟩, r⟩ => ⟨a, vs, e, ⟨o, imm_f h⟩, RVs.imm ws vs r⟩
theorem RVs.imm {H : Hp} : ∀ (ws : List W) (vs : List V), RVs H ws vs → RVs (imm H) ws vs
  | [], _, h => h
  | w :: ws, _, ⟨v, r, e, h, t⟩ => ⟨v, r, e, RV.imm w v h, RVs.imm ws r t⟩
end
section
variable {P : Program} {w : World} {H H2 : Hp} {h h' : Heap} {fs : List Addr}
theorem imm_ok (ok : HOk P w H h) : HOk P w (imm H) h := fun a o e => by
  obtain ⟨e1, q⟩ := imm_some e
  have x := ok a o e1
  rcases q with ⟨xs, rfl⟩ | ⟨ob, xs, rfl⟩
  · exact x
  · exact x
/-- behind a call that saw only what never changes -/
theorem imm_back (fr : ∀ b ∈ fs, H b = none) (ok : HOk P w H h) (u : Un fs [] (imm H) H2 h h') (ok2 : HOk P w H2 h') : Un fs [] H H h h' ∧ HOk P w H h' := by
  refine ⟨⟨fun b o e n f x => u.keep b o e (imm_none n) f x, fun b o e n f x => u.slot b o e (imm_none n) f x, fun b o e n x => n, fun b o e x => u.there b o e x, fun b xs e => e, fun b o v e => e, fun b ps e => ⟨#[], by simpa using e⟩⟩, fun a o e => ?_⟩
  rcases imm_or e with ⟨xs, rfl⟩ | ⟨ob, xs, rfl⟩ | n
  · exact ok2 a _ (u.tups a xs (imm_t e))
  · exact ok2 a _ (u.frzs a ob _ (imm_f e))
  · refine (ok a o e).stay (fun b v hb hv => ?_) (fun b z => z) fun b xs z => z
    have hn : imm H b = none := by
      rcases hb with z | z
      · rw [z]; exact n
      · rcases imm_or z with ⟨xs, q⟩ | ⟨_, xs, q⟩ | q
        · cases q
        · cases q
        · exact q
    refine u.keep b v hv hn (fun z => ?_) (by simp)
    have hb0 := fr b z
    rcases hb with q | q
    · rw [q] at hb0; rw [hb0] at e; cases e
    · rw [hb0] at q; cases q
theorem frames_un {base : Heap} : ∀ (l : List Env), (∀ b ∈ frs l, b ∈ fs) → (∀ b ∈ fs, H b = none) → Un fs [] H H h h' → h.FunFrames base l → h'.FunFrames base l
  | [], _, _, _, _ => trivial
  | env :: r, hs, fr, u, ⟨hk, ⟨L, o, hf, hn, ho, hd⟩, hr⟩ => by
    have hL : L ∈ fs := hs L (by unfold frs; rw [List.filterMap_cons, hf]; exact List.mem_cons_self)
    obtain ⟨sl, e⟩ := u.slot L o ho (fr L hL) hL (by simp)
    exact ⟨hk, ⟨L, _, hf, hn, e, hd⟩, frames_un r (fun b hb => hs b (by unfold frs; rw [List.filterMap_cons, hf]; exact List.mem_cons_of_mem _ hb)) fr u hr⟩
end
/-- tuples of whole numbers, in the heap itself -/
def KeyT (h : Heap) (v : Value) (ns : List Int) : Prop := ∃ t its, v = .ref t ∧ IsTup h t its.toArray ∧ IntsAre its ns
def kD (ns : List Int) : PyData := .tuple (ns.map .int)
theorem reads_are {h : Heap} : ∀ {its : List Value} {ns : List Int}, IntsAre its ns → ReadsAll h its (ns.map PyData.int) []
  | _, _, .nil => .nil
  | _, _, .cons n t r => .cons (as := []) (bs := []) (.int n t) (reads_are r)
theorem KeyT.reads {h : Heap} {v : Value} {ns : List Int} (k : KeyT h v ns) : Reads h v (kD ns) [] := by
  obtain ⟨t, its, rfl, ⟨o, ho, hc, n, hd⟩, r⟩ := k
  exact .tuple ho hc hd (by simpa using reads_are (h := h) r)
theorem are_of {H : Hp} : ∀ {ns : List Int} {vs : List V} {us : List Value}, RVs H (ns.map W.int) vs → Vals vs us → IntsAre us ns
  | [], _, _, r, v => by
    cases (show _ = [] from r)
    cases v
    exact .nil
  | n :: ns, _, _, ⟨x, r, e, h, t⟩, v => by
    subst e
    cases (show x = .int n from h)
    cases v with
    | cons v1 v2 =>
      obtain ⟨tk, rfl⟩ := (show ∃ tk, _ = Value.int n tk from v1)
      exact .cons n tk (are_of t v2)
/-- the heap's first n objects -/
def fstN (h : Heap) (n : Nat) : Heap := { h with objs := h.objs.extract 0 n }
theorem fstN_at {h : Heap} {n b : Nat} : (fstN h n).get? b = if b < n then h.get? b else none := by
  unfold Heap.get? fstN
  show (match (h.objs.extract 0 n)[b]? with | some ⟨_, _, .freed, _⟩ => none | o => o) = _
  rw [Array.getElem?_extract]
  by_cases c : b < n
  · rw [if_pos c]
    by_cases c2 : b < h.objs.size
    · rw [if_pos (by omega), Nat.zero_add]; rfl
    · rw [if_neg (by omega)]
      have : h.objs[b]? = none := Array.getElem?_eq_none (by omega)
      rw [this]
  · rw [if_neg (by omega), if_neg c]
theorem each_snoc' {α β : Type} {R : α → β → Prop} {a : α} {b : β} (r : R a b) : ∀ {as : List α} {bs : List β}, PySem.W.EachIs R as bs → PySem.W.EachIs R (as ++ [a]) (bs ++ [b])
  | _, _, .nil => .cons r .nil
  | _, _, .cons h t => .cons h (each_snoc' r t)
/-- keys, by what is tracked -/
def KeyJ (H : Hp) (h : Heap) (v : Value) (ns : List Int) : Prop := (∃ t, v = .ref t ∧ H t = none ∧ KeyT h v ns) ∨ ∃ t, v = .ref t ∧ H t = some (.tup (ns.map V.int))
theorem KeyJ.un {P : Program} {w : World} {H : Hp} {h h' : Heap} {fs : List Addr} {v : Value} {ns : List Int} (k : KeyJ H h v ns) (u : Un fs [] H H h h') : KeyJ H h' v ns := by
  rcases k with ⟨t, e, n, t', its, e', ⟨o, ho, hc, m, hd⟩, r⟩ | k
  · rw [e] at e'; cases e'
    obtain ⟨sl, h1⟩ := u.any ho n (by simp)
    exact .inl ⟨t, e, n, t, its, e, ⟨_, h1, hc, m, hd⟩, r⟩
  · exact .inr k
theorem ints_of_vals : ∀ {ns : List Int} {us : List Value}, Vals (ns.map V.int) us → IntsAre us ns
  | [], _, v => by cases v; exact .nil
  | n :: ns, _, v => by
    cases v with
    | cons v1 v2 =>
      obtain ⟨tk, rfl⟩ := (show ∃ tk, _ = Value.int n tk from v1)
      exact .cons n tk (ints_of_vals v2)
theorem KeyJ.t {P : Program} {w : World} {H : Hp} {h : Heap} {v : Value} {ns : List Int} (ok : HOk P w H h) (k : KeyJ H h v ns) : KeyT h v ns := by
  rcases k with ⟨_, _, _, k⟩ | ⟨t, e, ht⟩
  · exact k
  · obtain ⟨_, its, r, it⟩ := ok t _ ht
    exact ⟨t, its, e, it, ints_of_vals r⟩
theorem obj_there {P : Program} {w : World} {H : Hp} {h : Heap} {a : Addr} {o : HO} (x : ObjOk P w H h a o) : ∃ ob, h.get? a = some ob := by
  cases o with
  | lst xs => obtain ⟨_, _, _, _, e⟩ := x; exact ⟨_, e⟩
  | tup xs => obtain ⟨_, _, _, o, e, _⟩ := x; exact ⟨_, e⟩
  | dK kvs => obtain ⟨_, _, _, _, o, _, _, e, _⟩ := x; exact ⟨_, e⟩
  | dT kvs => obtain ⟨_, _, _, _, o, _, _, e, _⟩ := x; exact ⟨_, e⟩
  | set S n => obtain ⟨o, _, _, _, e, _⟩ := x; exact ⟨_, e⟩
  | ins C dx fs => obtain ⟨_, _, _, e, _⟩ := x; exact ⟨_, e⟩
  | own y => exact x
  | xd fs => obtain ⟨_, ⟨_, _, _, e, _⟩, _⟩ := x; exact ⟨_, e⟩
  | rng lo hi => obtain ⟨_, _, _, e⟩ := x; exact ⟨_, e⟩
  | frz ob u => exact ⟨_, x.1⟩
  | tbl ps => exact ⟨_, show h.get? a = some _ from x⟩
  | met f y => exact ⟨_, show h.get? a = some _ from x⟩
  | ext φ => obtain ⟨_, e, _⟩ := x; exact e
theorem zip_fst {α β : Type} : ∀ {xs : List α} {ys : List β}, xs.length = ys.length → (xs.zip ys).map Prod.fst = xs
  | [], [], _ => rfl
  | [], _ :: _, h => by cases h
  | _ :: _, [], h => by cases h
  | x :: xs, y :: ys, h => by
    show x :: (xs.zip ys).map Prod.fst = _
    rw [zip_fst (Nat.succ.inj h)]
theorem rvs_zip {H : Hp} : ∀ {xs : List W} {vs : List V}, RVs H xs vs → ∀ p ∈ xs.zip vs, RV H p.1 p.2
  | [], _, _, p, h => by simp at h
  | x :: xs, _, ⟨v, r, e, h1, h2⟩, p, h => by
    subst e
    rcases List.mem_cons.mp h with z | h
    · subst z; exact h1
    · exact rvs_zip h2 p h
theorem rvs_of {H : Hp} : ∀ (l : List (W × V)), (∀ p ∈ l, RV H p.1 p.2) → RVs H (l.map Prod.fst) (l.map Prod.snd)
  | [], _ => rfl
  | p :: l, h => ⟨p.2, l.map Prod.snd, rfl, h p List.mem_cons_self, rvs_of l fun q hq => h q (List.mem_cons_of_mem _ hq)⟩
theorem each_zip {R : Value → W × V → Prop} {H : Hp} : ∀ {xs : List W} {vs : List V} {its : List Value}, RVs H xs vs → Vals vs its → (∀ w v x, RV H w v → RelV v x → R x (w, v)) → PySem.W.EachIs R its (xs.zip vs)
  | [], _, _, r, v, k => by
    cases (show _ = [] from r)
    cases v
    exact .nil
  | x :: xs, _, _, ⟨u, r, e, h1, h2⟩, v, k => by
    subst e
    cases v with
    | cons v1 v2 => exact .cons (k _ _ _ h1 v1) (each_zip h2 v2 k)
theorem vals_each {R : Value → W × V → Prop} (k : ∀ x p, R x p → RelV p.2 x) : ∀ {out : List Value} {l : List (W × V)}, PySem.W.EachIs R out l → Vals (l.map Prod.snd) out
  | _, _, .nil => .nil
  | _, _, .cons h t => .cons (k _ _ h) (vals_each k t)
theorem each_map {R : Value → List Int → Prop} {R' : Value → PyData → Prop} (k : ∀ v ns, R v ns → R' v (kD ns)) : ∀ {vs : List Value} {l : List (List Int)}, PySem.W.EachIs R vs l → PySem.W.EachIs R' vs (l.map kD)
  | _, _, .nil => .nil
  | _, _, .cons h t => .cons (k _ _ h) (each_map k t)
theorem alikeAll_ints : ∀ ns ms : List Int, PySem.W.alikeAll (ns.map PyData.int) (ms.map PyData.int) = true
  | [], _ => by rw [List.map_nil, PySem.W.alikeAll]
  | _ :: _, [] => rfl
  | n :: ns, m :: ms => by
    rw [List.map_cons, List.map_cons, PySem.W.alikeAll, alikeAll_ints ns ms]
    rfl
theorem kD_alike (ns ms : List Int) : PySem.W.alike (kD ns) (kD ms) = true := by
  unfold kD
  rw [PySem.W.alike]
  exact alikeAll_ints ns ms
theorem kD_depth (ns : List Int) : (kD ns).depth ≤ 1 := by
  have := dep_ints ns
  unfold kD
  rw [PyData.depth]
  omega
section
variable {X : Cx} {k : Nat} {f : Addr} {fd : FuncData} {p1 : Str} {sp : ASp}
set_option maxHeartbeats 2000000 in
theorem skey_run {pins : List (Addr × Obj)} {s : Shared} {σ : St} {H : Hp} {a : Addr} {xs : List W} {vs : List V} {kf : W → List Int} {Q : VK}
    (F : FnOk X.prog X.w X.K X.mg X.base CX0 k f fd [p1] (low (cc X) sp)) (hr : Room (k + 2) X.A) (hb : Binds X.K fd [p1] [])
    (hsp : ∀ w ∈ xs, ∀ K : W → AH → Prop, K (.tup ((kf w).map W.int)) (fun _ => none) → sp [w] (fun _ => none) K noE) (hne : ∀ w ∈ xs, kf w ≠ [])
    (I : Inv X pins σ H s) (hs : SqL X.K H a vs) (rv : RVs H xs vs)
    (q : ∀ (ys : List W) (us : List V) (D : Addr), ys.Perm xs → ys.Pairwise (fun y z => PySem.W.dataLe false (fun w => kD (kf w)) y z = true) → RVs H ys us → H D = none → Q (.ref D) (upd H D (.lst us))) :
    wpAny (model X.prog X.w) X.A (call (.builtin "sorted") [.ref a] [(Str.ofString "key", .ref f)]) (EP X pins σ Q) X.xe s := by
  obtain ⟨its, rvl, hl, hz⟩ := I.list hs
  have lits : its.length = vs.length := rvl.length.symm
  have lxs : xs.length = vs.length := rv.length
  have hzi : its.length ≤ sizeLine := by rw [lits]; exact hz
  refine PySem.W.sorted_of_sort hl.isList hzi (PyProof.Rows.ksk_s1 _ _) (fun _ => PyProof.Rows.ksk_l1 _ _) fun E' => ?_
  rw [PyProof.Rows.ksk_t1]
  have ho := PySem.W.copyHeap_at s.heap its
  generalize hD : s.heap.objs.size + 1 = D at ho ⊢
  have hDs : s.heap.objs.size ≤ D := by omega
  have hDn : H D = none := I.hok.fresh hDs
  obtain ⟨e1, ho1⟩ : ∃ e1, ((PySem.W.copyHeap s.heap its).update D (Obj.mapSeq fun _ => #[])).get? D = some (seqObj "list" #[] e1) := ⟨_, get?_update_seq ho fun _ => #[]⟩
  unfold PyProof.Rows.ksk_tree
  refine wpAny_bind (listItems_at ho rfl ?_)
  refine wpAny_bind (listUpdate_at ho rfl ?_ (by rw [List.size_toArray]; exact hzi) (Nat.zero_le _))
  refine wpAny_bind (seqEpoch_at ho1 rfl ?_)
  refine wpAny_bind (wpAny_newTuple ?_ (by show its.length ≤ _; exact hzi))
  refine wpAny_bind (wpAny_newList ?_ (Nat.zero_le _))
  refine wpAny_holding ?_
  show wpAny _ _ (PyProof.Rows.ksk_rest D (.ref f) false its.toArray e1 (.ref (((PySem.W.copyHeap s.heap its).update D (Obj.mapSeq fun _ => #[])).push (seqObj "tuple" its.toArray 0)).objs.size)) _ _ { s with heap := PySem.W.sortingHeap (PySem.W.copyHeap s.heap its) D its }
  have hkS0 : (PySem.W.sortingHeap (PySem.W.copyHeap s.heap its) D its).get? (((PySem.W.copyHeap s.heap its).update D (Obj.mapSeq fun _ => #[])).push (seqObj "tuple" its.toArray 0)).objs.size = some (seqObj "list" #[] 0) := Heap.get?_push_size _ rfl
  have hDD : (PySem.W.sortingHeap (PySem.W.copyHeap s.heap its) D its).get? D = some (seqObj "list" #[] e1) := Heap.get?_push_of_some _ (Heap.get?_push_of_some _ ho1)
  have hkD : D < (((PySem.W.copyHeap s.heap its).update D (Obj.mapSeq fun _ => #[])).push (seqObj "tuple" its.toArray 0)).objs.size := Heap.lt_size (Heap.get?_push_of_some _ ho1)
  have hold : ∀ b o, s.heap.get? b = some o → (PySem.W.sortingHeap (PySem.W.copyHeap s.heap its) D its).get? b = some o := fun b o e => PySem.W.sortingHeap_old (Nat.ne_of_lt (Nat.lt_of_lt_of_le (Heap.lt_size e) hDs)) (PySem.W.copyHeap_old e)
  generalize (((PySem.W.copyHeap s.heap its).update D (Obj.mapSeq fun _ => #[])).push (seqObj "tuple" its.toArray 0)).objs.size = kS at hkS0 hkD ⊢
  generalize PySem.W.sortingHeap (PySem.W.copyHeap s.heap its) D its = g0 at hkS0 hDD hold ⊢
  have hkn : H kS = none := I.hok.fresh (by omega)
  have fr := I.stkFree
  have nfr : ∀ b, s.heap.objs.size ≤ b → b ∉ frs X.stack := fun b hb z => by
    obtain ⟨_, o, ho, _⟩ := I.stack.mem z
    exact absurd (Heap.lt_size ho) (Nat.not_lt.mpr hb)
  have ok0 : HOk X.prog X.w H g0 := fun b o e => (I.hok b o e).stay (fun c v _ y => hold c v y) (fun c z => z) fun c ys z => z
  unfold PyProof.Rows.ksk_rest
  refine wpAny_bind (wpAny_rule ?_)
  rw [List.forIn_toArray]
  let J : Nat → Shared → Prop := fun i s' => s'.os = s.os ∧ AllBare s'.gens ∧ Un (frs X.stack) [] H H s.heap s'.heap ∧ HOk X.prog X.w H s'.heap ∧ s'.heap.get? D = some (seqObj "list" #[] e1) ∧ ∃ kA e, s'.heap.get? kS = some (seqObj "list" kA e) ∧ PySem.W.EachIs (KeyJ H s'.heap) kA.toList ((xs.map kf).take i)
  refine wpAny_bind (PyProof.Rows.ksk_fold J its 0 { s with heap := g0 } ⟨rfl, I.bare, Un.kept hold, ok0, hDD, #[], 0, hkS0, by rw [List.take_zero]; exact .nil⟩ ?step ?done)
  case step =>
    rintro j x s1 hx ⟨j1, j2, j3, j4, j5, kA, e, j6, j7⟩
    simp only [Nat.zero_add] at j7 ⊢
    have hj : j < its.length := (List.getElem?_eq_some_iff.mp hx).1
    obtain ⟨v, hv⟩ : ∃ v, vs[j]? = some v := ⟨_, List.getElem?_eq_getElem (by omega)⟩
    obtain ⟨w, hw⟩ : ∃ w, xs[j]? = some w := ⟨_, List.getElem?_eq_getElem (by omega)⟩
    obtain ⟨v', hv', rw1⟩ := rv.get hw
    have : v' = v := Option.some.inj (hv'.symm.trans hv)
    subst this
    have rx : RelV v' x := by
      obtain ⟨y, hy, ry⟩ := LiI.paired_get rvl hv
      rw [hx] at hy; cases hy; exact ry
    have kb : ∀ b o, X.base.get? b = some o → s1.heap.get? b = some o := fun b o e => by
      obtain ⟨b1, b2⟩ := I.bs b o e
      exact j3.keep b o b1 b2 (fun z => by rw [(I.stack.mem z).1] at e; cases e) (by simp)
    have env : Env0 X.prog X.w X.K X.mg X.base X.A.in1.in1 X.stack s1 (imm H) := by
      refine ⟨I.ok.frames, I.ok.mod, fun b o e => ⟨kb b o e, imm_none (I.bs b o e).2⟩, ?_, frames_un X.stack (fun b hb => hb) fr j3 I.stack, fun b hb => imm_none (fr b hb), imm_ok j4, j2⟩
      exact Nat.le_trans I.ok.bsz (Nat.le_trans I.ok.above (Nat.le_trans (Nat.le_of_lt I.lt) (Nat.le_trans hDs (Nat.le_of_lt (Heap.lt_size j5)))))
    have hrr : Room k X.A.in1.in1 := hr.in1.in1
    have kIn : X.K.In s1.heap := I.ok.mod.kin.keeps kb
    have run := F.run X.A.in1.in1 X.stack s1 (imm H) ⟨[x], []⟩ [x] [v'] (CW (cc X) (imm H) fun w' _ => w' = .tup ((kf w).map W.int)) E0 hrr env (hb s1 [x] kIn rfl) (.cons rx .nil)
      ⟨[w], fun _ => none, _, noE, RVs.cons (RV.imm w v' rw1) RVs.nil, fun a o e => (by cases e), hsp w (List.mem_of_getElem? hw) _ rfl, fun _ _ z => z, fun _ _ _ ⟨_, _, _, z⟩ => z.elim⟩
    have turn : wpAny (model X.prog X.w) X.A.in1.in1 (call (.ref f) [x]) (fun u s2 => CE X.stack X.prog X.w (imm H) s1 (CW (cc X) (imm H) fun w' _ => w' = .tup ((kf w).map W.int)) u s2) (fun _ _ => False) s1 := wpAny_call (codeAny_mono run fun r s' hq => by
      cases r with
      | error e => exact hq.elim
      | ok fl =>
        cases fl with
        | ret u => exact hq
        | next => exact hq.elim
        | brk => exact hq.elim
        | cont => exact hq.elim)
    refine wpAny_bind (wpAny_attempt (wpAny_mono turn (fun u s2 he => ?_) fun _ _ z => z.elim))
    obtain ⟨v2, H2, os2, bare2, un2, ok2, ru, w', G', k', rw', rg', ew⟩ := he
    subst ew
    obtain ⟨t, vs', e2, hH2, rr⟩ := rw'
    subst e2
    obtain rfl : u = Value.ref t := ru
    obtain ⟨un3, ok3⟩ := imm_back fr j4 un2 ok2
    have hkS' : s.heap.objs.size ≤ kS := Nat.le_trans hDs (Nat.le_of_lt hkD)
    have nk2 : s2.heap.get? kS = some (seqObj "list" kA e) := un3.keep kS _ j6 hkn (nfr kS hkS') (by simp)
    have nD2 : s2.heap.get? D = some (seqObj "list" #[] e1) := un3.keep D _ j5 hDn (nfr D hDs) (by simp)
    have lk : kA.size ≤ sizeLine := by
      have h1 := j7.length
      rw [Array.length_toList, List.length_take, List.length_map] at h1
      have : kA.size ≤ xs.length := by rw [h1]; exact Nat.min_le_right _ _
      exact Nat.le_trans this (by rw [lxs]; exact hz)
    try dsimp only
    have same := Heap.SameBut.update s2.heap kS (Obj.mapSeq (·.push (Value.ref t)))
    obtain ⟨c2, hc2⟩ : ∃ c2, (s2.heap.update kS (Obj.mapSeq (·.push (Value.ref t)))).get? kS = some (seqObj "list" (kA.push (.ref t)) c2) := ⟨_, get?_update_seq nk2 (·.push (Value.ref t))⟩
    refine wpAny_bind (listUpdate_at nk2 rfl ?_ lk (Nat.le_trans (Nat.le_of_eq (Array.size_push ..)) (Nat.succ_le_succ lk)))
    have un4 := j3.trans un3
    have nold : ∀ b o, s.heap.get? b = some o → b ≠ kS := fun b o e => Nat.ne_of_lt (Nat.lt_of_lt_of_le (Heap.lt_size e) hkS')
    have kj : ∀ (v : Value) (ns : List Int), KeyJ H s2.heap v ns → KeyJ H (s2.heap.update kS (Obj.mapSeq (·.push (Value.ref t)))) v ns := fun v ns kj => by
      rcases kj with ⟨t, e, n, t', its, e', ⟨o, ho, hc, m, hd⟩, r⟩ | kj
      · rw [e] at e'; cases e'
        have : t ≠ kS := fun z => by
          rw [z, nk2] at ho; cases ho
          exact absurd (show Value.type "list" = Value.type "tuple" from hc) (by decide)
        exact .inl ⟨t, e, n, t, its, e, ⟨o, (same.2 t this).trans ho, hc, m, hd⟩, r⟩
      · exact .inr kj
    have new : KeyJ H s2.heap (.ref t) (kf w) := by
      obtain ⟨_, its2, rv2, it2⟩ := ok2 t _ hH2
      cases ht : H t with
      | none => exact .inl ⟨t, rfl, ht, t, its2, rfl, it2, are_of rr rv2⟩
      | some y =>
        right
        refine ⟨t, rfl, ?_⟩
        rcases imm_or ht with ⟨ys, rfl⟩ | ⟨ob, ys, rfl⟩ | n
        · have h3 := un2.tups t ys (imm_t ht)
          rw [hH2] at h3; cases h3
          rw [ht, rr.ints_eq]
        · have h3 := un2.frzs t ob _ (imm_f ht)
          rw [hH2] at h3; cases h3
        · obtain ⟨o, ho⟩ := obj_there (j4 t y ht)
          have h3 := un2.free t o ho n (by simp)
          rw [hH2] at h3; cases h3
    have ek : (xs.map kf).take (j + 1) = (xs.map kf).take j ++ [kf w] := by rw [List.take_add_one, List.getElem?_map, hw]; rfl
    have ea : (kA.push (Value.ref t)).toList = kA.toList ++ [Value.ref t] := by simp
    refine wpAny_pure ⟨rfl, os2.trans j1, bare2, ⟨fun b o e n f x => (same.2 b (nold b o e)).trans (un4.keep b o e n f x), fun b o e n f x => ?_, fun b o e n x => n, fun b o e x => ?_, fun b ys e => e, fun b o v e => e, fun b ps e => ⟨#[], by simpa using e⟩⟩, fun b o e => (ok3 b o e).stay (fun c v hc hv => (same.2 c fun z => ?_).trans hv) (fun c z => z) fun c ys z => z, (same.2 D (Nat.ne_of_lt hkD)).trans nD2, kA.push (.ref t), c2, hc2, ?_⟩
    · obtain ⟨sl, h1⟩ := un4.slot b o e n f x
      exact ⟨sl, (same.2 b (nold b o e)).trans h1⟩
    · obtain ⟨o', h1⟩ := un4.there b o e x
      exact ⟨o', (same.2 b (nold b o e)).trans h1⟩
    · subst z
      rcases hc with z | z
      · rw [z] at hkn; rw [hkn] at e; cases e
      · rw [hkn] at z; cases z
    · rw [ea, ek]
      exact each_snoc' (kj _ _ new) (j7.mono fun v ns z => kj v ns (z.un (P := X.prog) (w := X.w) un3))
  case done =>
    rintro s1 ⟨j1, j2, j3, j4, j5, kA, e, j6, j7⟩
    rw [Nat.zero_add, List.take_of_length_le (by rw [List.length_map]; omega)] at j7
    refine wpAny_bind (listItems_at j6 rfl ?_)
    have hal : PySem.W.AllAlike ((xs.map kf).map kD) := fun d hd d' hd' => by
      obtain ⟨ns, _, rfl⟩ := List.mem_map.mp hd
      obtain ⟨ms, _, rfl⟩ := List.mem_map.mp hd'
      exact kD_alike ns ms
    have hsk : PySem.W.Sortable ((xs.map kf).map kD) := .inl fun d hd => by
      obtain ⟨ns, hns, rfl⟩ := List.mem_map.mp hd
      obtain ⟨w, hw, rfl⟩ := List.mem_map.mp hns
      cases hk : kf w with
      | nil => exact absurd hk (hne w hw)
      | cons n r => exact ⟨_, _, rfl⟩
    have hu : ∀ d, d ∈ (xs.map kf).map kD → X.A.in1.in1.units + d.depth < cLine := fun d hd => by
      obtain ⟨ns, _, rfl⟩ := List.mem_map.mp hd
      have h1 := kD_depth ns
      have h2 := hr.in1.in1.units
      omega
    have ek : PySem.W.EachIs (fun v d => ∃ as, Reads s1.heap v d as) kA.toList ((xs.map kf).map kD) := each_map (fun v ns z => ⟨[], (z.t j4).reads⟩) j7
    have hsz : kA.size = its.length := by
      have h1 := j7.length
      rw [Array.length_toList, List.length_map] at h1
      omega
    have hkS' : s.heap.objs.size ≤ kS := Nat.le_trans hDs (Nat.le_of_lt hkD)
    refine PySem.W.keyH_end (κ := PySem.W.dataKind s1.heap ((xs.map kf).map kD)) (h₁ := fstN s1.heap kS) (fun b o hb e => ?_) (by rw [fstN_at, if_neg (Nat.lt_irrefl _)]) j6 j5 (Nat.ne_of_gt hkD) (PySem.W.SortsAt.data (s := s1) ek hal hsk hu) hsz hzi fun h' tk c kp hout => ⟨rfl, ?_⟩
    · rw [fstN_at] at e
      split at e
      · exact e
      · cases e
    have ko : PySem.W.KeyedOut false ((xs.zip vs).map fun p => kD (kf p.1)) its (PySem.W.sortVals (PySem.W.dataKind s1.heap ((xs.map kf).map kD)) false kA.toList its) := by
      have e1 : ((xs.zip vs).map fun p => kD (kf p.1)) = (xs.map kf).map kD := by
        have : (xs.zip vs).map (fun p => kD (kf p.1)) = ((xs.zip vs).map Prod.fst).map fun w => kD (kf w) := by rw [List.map_map]; rfl
        rw [this, zip_fst lxs, List.map_map]; rfl
      rw [e1]
      exact ⟨s1.heap, kA.toList, hal, rfl, ek⟩
    have eo := PySem.W.keyedOut_each (R := fun x (p : W × V) => RelV p.2 x ∧ RV H p.1 p.2) (fun (p : W × V) => kD (kf p.1)) ko (each_zip rv rvl fun w v x h1 h2 => ⟨h2, h1⟩)
    have pm : ((xs.zip vs).mergeSort (PySem.W.dataLe false fun p => kD (kf p.1))).Perm (xs.zip vs) := List.mergeSort_perm _ _
    have ps : ((xs.zip vs).mergeSort (PySem.W.dataLe false fun p => kD (kf p.1))).Pairwise fun p q => PySem.W.dataLe false (fun p : W × V => kD (kf p.1)) p q = true := by
      have tt := PySem.W.sortLe_total (PyProof.Rows.listOrd PyProof.Rows.itemOrd) false (fun p : W × V => PySem.W.keyToks (kD (kf p.1)))
      exact List.pairwise_mergeSort (le := PySem.W.dataLe false fun p : W × V => kD (kf p.1)) (fun a b c => tt.trans a b c) (fun a b => by
        rcases tt.total a b with h | h
        · exact Bool.or_eq_true_iff.mpr (.inl h)
        · exact Bool.or_eq_true_iff.mpr (.inr h)) _
    generalize (xs.zip vs).mergeSort (PySem.W.dataLe false fun p => kD (kf p.1)) = ms at eo pm ps
    generalize PySem.W.sortVals (PySem.W.dataKind s1.heap ((xs.map kf).map kD)) false kA.toList its = out at eo hout
    have hv : Vals (ms.map Prod.snd) out := vals_each (fun x p z => z.1) eo
    have hrv : RVs H (ms.map Prod.fst) (ms.map Prod.snd) := rvs_of ms fun p hp => rvs_zip rv p (pm.mem_iff.mp hp)
    have hpm : (ms.map Prod.fst).Perm xs := by
      have := pm.map Prod.fst
      rw [zip_fst lxs] at this
      exact this
    have kept : ∀ b o, b < s.heap.objs.size → s1.heap.get? b = some o → h'.get? b = some o := fun b o hb e => kp b o (Nat.ne_of_lt (Nat.lt_of_lt_of_le hb hDs)) (by rw [fstN_at, if_pos (Nat.lt_of_lt_of_le hb hkS')]; exact e)
    have up : ∀ b u, H b = some u → (upd H D (.lst (ms.map Prod.snd))) b = some u := fun b u e => by
      rw [upd_ne fun z => by rw [z, hDn] at e; cases e]; exact e
    refine ⟨.ref D, upd H D (.lst (ms.map Prod.snd)), ?_, rfl, q _ _ D hpm (List.pairwise_map.mpr ps) hrv hDn⟩
    refine I.call' (s' := { s1 with heap := h', toks := tk }) (ch := []) j1 ⟨fun b o e n f x => kept b o (Heap.lt_size e) (j3.keep b o e n f x), fun b o e n f x => ?_, fun b o e n x => ?_, fun b o e x => ?_, fun b ys e => up b _ e, fun b o v e => up b _ e, fun b ps e => ⟨#[], by rw [up b _ e]; simp⟩⟩ (fun b u e => ?_) j2 fun b z => by simp at z
    · obtain ⟨sl, h1⟩ := j3.slot b o e n f x
      exact ⟨sl, kept b _ (Heap.lt_size e) h1⟩
    · rw [upd_ne (Nat.ne_of_lt (Nat.lt_of_lt_of_le (Heap.lt_size e) hDs))]; exact n
    · obtain ⟨o', h1⟩ := j3.there b o e x
      exact ⟨o', kept b _ (Heap.lt_size e) h1⟩
    · by_cases hb2 : b = D
      · subst hb2
        rw [upd_same] at e; cases e
        refine ⟨?_, out, c, hv, hout⟩
        rw [List.length_map]
        have := hpm.length_eq
        rw [List.length_map] at this
        omega
      · rw [upd_ne hb2] at e
        refine (j4 b u e).stay (fun d v hd y => kept d v ?_ y) (fun d z => up d _ z) fun d ys z => up d _ z
        rcases hd with z | z
        · rw [z]; exact I.hok.lt e
        · exact I.hok.lt z
end
section
variable {X : Cx} {e : Expr} {p p2 pos kpos : Pos} {ρ : AS} {G : AH} {K : W → AH → Prop} {fn p1 : Str} {k : Nat} {sp : ASp}
def rSortKey (X : Cx) (f : Addr) (sp : ASp) : List V → List V → Hp → VK → Prop := fun vs zs H Q => ∃ (a : Addr) (xs : List W) (vv : List V) (kf : W → List Int), vs = [.ref a] ∧ zs = [.ref f] ∧ SqL X.K H a vv ∧ RVs H xs vv ∧
  (∀ w ∈ xs, ∀ K : W → AH → Prop, K (.tup ((kf w).map W.int)) (fun _ => none) → sp [w] (fun _ => none) K noE) ∧ (∀ w ∈ xs, kf w ≠ []) ∧
  ∀ (ys : List W) (us : List V) (D : Addr), ys.Perm xs → ys.Pairwise (fun y z => PySem.W.dataLe false (fun w => kD (kf w)) y z = true) → RVs H ys us → H D = none → Q (.ref D) (upd H D (.lst us))
theorem cr_sortKey {f : Addr} {fd : FuncData} (F : FnOk X.prog X.w X.K X.mg X.base CX0 k f fd [p1] (low (cc X) sp)) (hr : Room (k + 2) X.A) (hb : Binds X.K fd [p1] []) : CallRK X (.builtin "sorted") [Str.ofString "key"] (rSortKey X f sp) := by
  intro pins s σ H vs zs us ws Q I r rz h
  obtain ⟨a, xs, vv, kf, rfl, rfl, hs, rv, hsp, hne, q⟩ := h
  obtain rfl := Vals.ref1 r
  obtain ⟨w1, rfl, e1⟩ := vals1 rz
  obtain rfl : w1 = Value.ref f := e1
  exact skey_run F hr hb hsp hne I hs rv q
/-- sorted(e, key = a def of the text) -/
theorem q_sortedKey (C : Cal X.prog X.w X.K X.mg X.base fn k [p1] sp) (hr : Room (k + 2) X.A) (hm : X.mg "sorted" = none) (kf : W → List Int)
    (h : AQ X [e] ρ G fun ws G1 => ∃ w xs, ws = [w] ∧ LsA G1 w xs ∧ (∀ w ∈ xs, kf w ≠ []) ∧ (∀ w ∈ xs, ∀ K : W → AH → Prop, K (.tup ((kf w).map W.int)) (fun _ => none) → sp [w] (fun _ => none) K noE) ∧
      ∀ (ys : List W) (p : Addr), ys.Perm xs → ys.Pairwise (fun y z => PySem.W.dataLe false (fun w => kD (kf w)) y z = true) → G1 p = none → K (.ref p) (aup G1 p (.lst ys)))
    (hg : Gl X "sorted" := by rfl) (hgf : Gl X fn := by rfl)
    (he : backTo pos (starEach [e] X.env) = (false, eval e X.env) :: backTo pos (starEach [] X.env) := by rfl) (hpl : (backTo pos (starEach [e] X.env)).any (·.1) = false := by rfl)
    (hall : (backToKw pos (keywordEach [⟨some "key", .Name fn p2, kpos⟩] X.env)).all (·.1.isSome) = true := by rfl) (hnone : (backToKw pos (keywordEach [⟨some "key", .Name fn p2, kpos⟩] X.env)).any (·.1.isNone) = false := by rfl) (hks : (backToKw pos (keywordEach [⟨some "key", .Name fn p2, kpos⟩] X.env)).filterMap (·.1) = [Str.ofString "key"] := by rfl) (hdb : (fn == ("__debug__" : Str)) = false := by decide) :
    EQ X (.Call (.Name "sorted" p) [e] [⟨some "key", .Name fn p2, kpos⟩] pos) ρ G K := by
  obtain ⟨f, fd, F, hmf, hkf, hb⟩ := C.ex
  exact EQ.of (pe_callBK (cr_sortKey F hr hb) hg hm (by decide +kernel) pa_A (pk_cons (pe_glob (v := .ref f) hgf hmf rfl hdb) pk_nil) (by decide) (by decide) he hpl hall hnone hks) fun σ H rs rg => ⟨ρ, G, _, h, rs, rg, fun vs H1 ⟨ws, G1, k1, r1, rg1, _, w, xs, ew, hL, hne, hsp, q⟩ => by
    subst ew
    obtain ⟨v, rfl, hv⟩ := rv1 r1
    obtain ⟨a, vv, rfl, hsq, rr⟩ := hL.sq rg1 hv
    exact ⟨a, xs, vv, kf, rfl, rfl, hsq, rr, hsp, hne, fun ys us D pm ps r2 hD => ⟨.ref D, _, k1.trans (Keep.new hD), rfl, rg1.newL hD r2, q ys D pm ps (rg1.free hD)⟩⟩⟩
end
/-- the first number of the key -/
theorem dataLe_head {kf : W → List Int} {y z : W} {n m : Int} {r t : List Int} (h : PySem.W.dataLe false (fun w => kD (kf w)) y z = true) (e1 : kf y = n :: r) (e2 : kf z = m :: t) : n ≤ m := by
  have h : (!PyProof.Rows.lexLt PyProof.Rows.itemOrd (PySem.W.keyToks (kD (kf z))) (PySem.W.keyToks (kD (kf y)))) = true := h
  rw [e1, e2] at h
  have k : ∀ (n : Int) (r : List Int), PySem.W.keyToks (kD (n :: r)) = Sum.inl 1 :: Sum.inl n :: PySem.W.keyToksAll (r.map PyData.int) := fun n r => by
    unfold kD
    rw [PySem.W.keyToks, List.map_cons, PySem.W.keyToksAll, PySem.W.keyToks]
    rfl
  rw [k, k] at h
  apply Classical.byContradiction
  intro hn
  have : PyProof.Rows.lexLt PyProof.Rows.itemOrd (Sum.inl 1 :: Sum.inl m :: PySem.W.keyToksAll (t.map PyData.int)) (Sum.inl 1 :: Sum.inl n :: PySem.W.keyToksAll (r.map PyData.int)) = true := by
    rw [PyProof.Rows.lex_true]
    right
    refine ⟨by decide, ?_⟩
    rw [PyProof.Rows.lex_true]
    left
    show decide (m < n) = true
    exact decide_eq_true (by omega)
  rw [this] at h
  cases h
end AL
namespace AL
open PySem PySem.Spec L2
open PyProof.Rows hiding St
/-! ### for k, v in d.items(), keys that are tuples -/
theorem paired_at {α β : Type} {R : α → β → Prop} : ∀ {xs : List α} {ys : List β}, Paired R xs ys → ∀ {i : Nat} {x : α}, xs[i]? = some x → ∃ y, ys[i]? = some y ∧ R x y
  | _, _, .nil, i, x, h => by simp at h
  | _, _, .cons p q, 0, x, h => by cases h; exact ⟨_, rfl, p⟩
  | _, _, .cons p q, i + 1, x, h => paired_at q h
abbrev NEs := List (NestedKey × Addr × V)
theorem frzN {X : Cx} {pins : List (Addr × Obj)} {σ : L2.St} {H : Hp} {s : Shared} {d : Addr} {o : Obj} {es : NEs} (I : Inv X pins σ H s) (h : H d = some (.frz o (.ext (rawN X.prog X.w d es)))) :
    (d == sysModules) = false ∧ s.heap.get? d = some o ∧ o.ExactDict ∧ ∃ es' ep, o.data = .dict es' ep ∧ es'.size = es.length ∧ ∀ i (hi : i < es'.size) p, es[i]? = some p → es'[i].key = .ref p.2.1 ∧ RelV p.2.2 es'[i].val := by
  obtain ⟨e, ⟨z, ns, xs, q, o', es', ep, h1, h2, h3, h4, _⟩, _, _⟩ := (I.hok d _ h : s.heap.get? d = some o ∧ ObjOk X.prog X.w H s.heap d (.ext (rawN X.prog X.w d es)))
  have : o' = o := Option.some.inj (h1.symm.trans e)
  subst this
  have lx : es.length = xs.length := Paired.length q
  have ls : es'.size = xs.length := by rw [← Array.length_toList, h4, List.length_map]
  refine ⟨ns, e, h2, es', ep, h3, by omega, fun i hi p hp => ?_⟩
  obtain ⟨y, hy, r1, r2, r3⟩ := paired_at q hp
  have h5 : es'.toList[i]? = some (entryOfKey (nestedKind X.prog X.w) y) := by rw [h4, List.getElem?_map, hy]; rfl
  have h6 : es'[i] = entryOfKey (nestedKind X.prog X.w) y := by
    have : es'.toList[i]? = some es'[i] := by rw [Array.getElem?_toList]; exact Array.getElem?_eq_getElem hi
    exact Option.some.inj (this.symm.trans h5)
  rw [h6]
  exact ⟨by rw [r2]; rfl, r3⟩
def ItN (P : Program) (w : World) (d : Addr) (o : Obj) (es : NEs) : It :=
  ⟨fun i H => H d = some (.frz o (.ext (rawN P w d es))) ∧ i < es.length, fun i H x H' => ∃ T p, es[i]? = some p ∧ x = .ref T ∧ H T = none ∧ H' = upd H T (.tup [.ref p.2.1, p.2.2]), fun i H => H d = some (.frz o (.ext (rawN P w d es))) ∧ es.length ≤ i⟩
theorem turn_itemsN {P : Program} {w : World} {K : PySem.W.Frag} {d : Addr} {o : Obj} {es : NEs} {es0 : Array DictEntry} {ep : Nat} {elts : List Expr} {kk : Nat} {tpos : Pos} (it : Addr) (hod : o.data = .dict es0 ep) :
    Turn P w K (.Tuple elts kk tpos) (ItN P w d o es) [it] it (fun i h => ∃ ok ov, IsItemIter h it d i es.length ep ok ov) where
  mem := by simp
  obj := fun i h st b hb => by
    have e : b = it := by simpa using hb
    subst e
    obtain ⟨ok, ov, e⟩ := st
    exact ⟨_, e, fun v z => nomatch z⟩
  keep := fun i h h' st k => let ⟨ok, ov, e⟩ := st; ⟨ok, ov, k it (by simp) _ e⟩
  item := by
    intro X hP hw hK hc i pins s σ H E I hf st hg
    subst hP hw hK
    obtain ⟨hd, hi⟩ := hg
    obtain ⟨ns, ho, hx, es', ep', hdt, hsz, hat⟩ := frzN I hd
    obtain ⟨rfl, rfl⟩ := dict_ep hod hdt
    obtain ⟨p, hp⟩ : ∃ p, es[i]? = some p := ⟨es[i], List.getElem?_eq_getElem hi⟩
    have hi' : i < es'.size := by omega
    obtain ⟨k1, k2⟩ := hat i hi' p hp
    obtain ⟨ok, ov, he⟩ := st
    rw [← hsz] at he
    have hlt : it < s.heap.objs.size := Heap.lt_size he
    refine wpAny_pyNext_items_item_raw he ⟨o, ho, hx, hdt⟩ hi' fun h' hit' hT hz hk => ?_
    refine ⟨_, rfl, wpAny_letOwnedTupleGo_items (s := { s with heap := h' }) hit' fun h'' he' sb => ?_⟩
    have hT2 := (sb.2 _ (Nat.ne_of_gt hlt)).trans hT
    rw [k1] at hT2
    have new : ObjOk X.prog X.w (upd H s.heap.objs.size (.tup [.ref p.2.1, p.2.2])) h'' s.heap.objs.size (.tup [.ref p.2.1, p.2.2]) :=
      ⟨by show 2 ≤ sizeLine; decide, [.ref p.2.1, es'[i].val], .cons rfl (.cons k2 .nil), ⟨_, hT2, rfl, _, rfl⟩⟩
    have I1 := I.turnedNew (h' := h'') (t' := s.toks) (ch := [it]) (fun b ob hb e => (sb.2 b (by simpa using hb)).trans (hk b ob (by simpa using hb) e)) hf (Nat.le_refl _) new
    refine ⟨.ref s.heap.objs.size, _, I1, rfl, ⟨_, p, hp, rfl, I.hok.fresh (Nat.le_refl _), rfl⟩, ⟨es'[i].key, es'[i].val, ?_⟩, fun b hb => ?_⟩
    · rw [← hsz]; exact he'
    · have e : b = it := by simpa using hb
      rw [e, upd_ne (Nat.ne_of_lt hlt)]
      exact (hf it (by simp)).1
  done := by
    intro X hP hw hK hc i pins s σ H E I hf st hg
    subst hP hw hK
    obtain ⟨hd, hi⟩ := hg
    obtain ⟨f0, f1, f2, f3, f4, f5⟩ := hf it (by simp)
    obtain ⟨ns, ho, hx, es', ep', hdt, hsz, hat⟩ := frzN I hd
    obtain ⟨rfl, rfl⟩ := dict_ep hod hdt
    obtain ⟨ok, ov, he⟩ := st
    rw [← hsz] at he
    exact wpAny_pyNext_items_end_raw (I.ok.hd hc) he ⟨o, ho, hx, hdt⟩ (by omega) fun h' eb => ⟨rfl, I.turned (t' := s.toks) (fun b ob hb e => eb b ob hb e) f0 f1 f3 f4 f5⟩
  self := fun A i s Q E st h => let ⟨_, _, e⟩ := st; PySem.W.kcp_self e h
def iItemsN (P : Program) (w : World) (td : TE) : TI := fun σ H R => td σ H fun x H1 => ∃ d o es, x = .ref d ∧ H1 d = some (.frz o (.ext (rawN P w d es))) ∧ R (ItN P w d o es) H1
theorem pi_itemsN {X : Cx} {e : Expr} {td : TE} {apos cpos : Pos} {elts : List Expr} {kk : Nat} {tpos : Pos} (he : PE X e td) (hbase : attributeBase e "items" X.env (eval e X.env) = eval e X.env := by rfl) (hline : (apos.endLine == cpos.line) = true := by rfl) :
    PI X (.Tuple elts kk tpos) (.Call (.Attribute e "items" apos) [] [] cpos) (iItemsN X.prog X.w td) := by
  refine ⟨fun pins s σ H R I h => ?_⟩
  refine wpAny_Call_method (T := "dict") (id := "dict.items") hbase rfl hline F.plainAttrs_dict F.slot_dict_items F.type_dict_items (thn (he.run pins s σ H _ I h) fun u s1 ⟨x, H1, I1, rx, d, o, es, ex, hd, q⟩ => ?_)
  subst ex
  obtain rfl : u = Value.ref d := rx
  obtain ⟨ns, ho, hx, es', ep, hdt, hsz, hat⟩ := frzN I1 hd
  have raw : s1.heap.DictRaw d es' ep := ⟨o, ho, hx, hdt⟩
  refine ⟨raw.typeIs, fun b q => ?_, ?_⟩
  · cases q; exact ⟨o, ho, hx.2.1⟩
  have I2 : Inv X pins σ H1 { s1 with heap := s1.heap.push { cls := .type "dict_items", data := .fields #[.ref d] } } := I1.kept (t' := s1.toks) fun b ob q => Heap.get?_push_of_some _ q
  have fin : wpAny (model X.prog X.w) X.A (pyIter (.ref s1.heap.objs.size)) (PIE X pins σ (.Tuple elts kk tpos) R) X.xe { s1 with heap := s1.heap.push { cls := .type "dict_items", data := .fields #[.ref d] } } := by
    refine wpAny_pyIter_items_raw (d := d) ⟨_, Heap.get?_push_size _ rfl, rfl, rfl⟩ (raw.push _) (pi_one (tk := s1.toks) I2 _ (turn_itemsN _ hdt) ⟨.none, .none, ?_⟩ q)
    rw [← hsz]
    exact Heap.get?_push_size _ rfl
  show wpAny _ _ (callWith cpos (.builtin "dict.items") [.ref d] [] []) _ X.xe s1
  exact method_meetsIn F.slot_dict_items F.entry_dict_items rfl (PySem.evalArgs_none ⟨rfl, raw.typeIs, F.args_dict_items_1 _, _, meets_dict_items_raw d ns, ⟨es', ep, raw⟩, fin⟩)
section
variable {X : Cx} {e : Expr} {apos cpos : Pos} {ρ : AS} {G : AH} {R : IK} {elts : List Expr} {kk : Nat} {tpos : Pos}
theorem i_itemsN (h : EQ X e ρ G fun w G1 => ∃ d kws, w = .ref d ∧ G1 d = some (.zN kws) ∧ R (kws.map fun kv => .tup [kv.1, kv.2]) (fun G => G d = some (.zN kws)) G1) (hbase : attributeBase e "items" X.env (eval e X.env) = eval e X.env := by rfl) (hline : (apos.endLine == cpos.line) = true := by rfl) : IQ X (.Tuple elts kk tpos) (.Call (.Attribute e "items" apos) [] [] cpos) ρ G R :=
  IQ.of (pi_itemsN pe_E hbase hline) fun σ H rs rg => ⟨ρ, G, _, h, rs, rg, fun u H1 ⟨w, G1, k1, rx, rg1, d, kws, e, hd, q⟩ => by
    subst e
    obtain ⟨o, es, h1, h2⟩ := rg1 d _ hd
    have l2 : kws.length = es.length := Paired.length h2
    refine ⟨d, o, es, rx, h1, _, _, G1, k1, rg1, ⟨fun i H2 G2 k2 rg2 o2 hi => ?_, fun i H2 G2 v H3 k2 rg2 o2 hi y => ?_, fun i H2 G2 k2 rg2 o2 hi => ?_⟩, q⟩
    · rw [List.length_map, l2] at hi
      exact ⟨k2.f _ _ _ h1, hi⟩
    · obtain ⟨T, p, hp, e2, hT, e3⟩ := y
      subst e2 e3
      rw [List.length_map] at hi
      obtain ⟨kw, hkw⟩ : ∃ kw, kws[i]? = some kw := ⟨kws[i], List.getElem?_eq_getElem hi⟩
      obtain ⟨p', hp', r⟩ := paired_at h2 hkw
      rw [hp] at hp'; cases hp'
      exact ⟨Keep.new hT, rg2.tup hT, .tup [kw.1, kw.2], by rw [List.getElem?_map, hkw]; rfl, T, _, rfl, upd_same, .cons ((r.2.2.2.1.mono k2).mono (Keep.new hT)) (.cons ((r.2.2.2.2.mono k2).mono (Keep.new hT)) RVs.nil)⟩
    · rw [List.length_map, l2] at hi
      exact ⟨k2.f _ _ _ h1, hi⟩⟩
end
end AL
namespace AL
open PySem PySem.Spec L2
open PyProof.Rows hiding St
/-! ### repr of data -/
theorem call_reprD {X : Cx} (hG : X.A.guards = some []) (hu : X.A.units + 70 < cLine) : CallR X (.builtin "repr") (fun xs H Q => ∃ a d, xs = [.ref a] ∧ Dp X.K H (.ref a) d ∧ d.showable = true ∧ d.hasDict = false ∧ d.depth ≤ 60 ∧ d.shown.length ≤ sizeLine ∧ Q (.str d.shown) H) := by
  intro pins s σ H xs us Q I r h
  obtain ⟨a, d, rfl, hd, h1, h2, h3, h4, q⟩ := h
  obtain rfl := Vals.ref1 r
  obtain ⟨as, rd⟩ := Dp.reads I d (.ref a) (.ref a) hd rfl
  exact repr_of_reads' rd h1 (fun e => by rw [h2] at e; cases e) hG (by omega) (fun _ _ e => e) (fun h' u tk hk => ⟨.str d.shown, H, I.kept (t' := tk) hk, ⟨_, rfl⟩, q⟩) h4
/-- what repr can show of a value -/
structure RpOk (w : W) : Prop where
  ok : okW w = true
  sh : (pdW w).showable = true
  nd : (pdW w).hasDict = false
  dp : (pdW w).depth ≤ 60
  sz : (pdW w).shown.length ≤ sizeLine
def rpW (w : W) : Str := (pdW w).shown
theorem q_repr {X : Cx} {e : Expr} {es : List Expr} {p pos : Pos} {ρ : AS} {G : AH} {K : W → AH → Prop} (hG : X.A.guards = some []) (hu : X.A.units + 70 < cLine) (hm : X.mg "repr" = none) (h : AQ X (e :: es) ρ G fun ws G1 => ∃ xs, ws = [.lst xs] ∧ RpOk (.lst xs) ∧ K (.str (rpW (.lst xs))) G1) (hg : Gl X "repr" := by rfl)
    (he : starEach (e :: es) X.env = (false, eval e X.env) :: starEach es X.env := by rfl) (hpl : (backTo pos (starEach es X.env)).any (·.1) = false := by rfl) : EQ X (.Call (.Name "repr" p) (e :: es) [] pos) ρ G K :=
  q_callB (R := fun ws G1 K => ∃ xs, ws = [.lst xs] ∧ RpOk (.lst xs) ∧ K (.str (rpW (.lst xs))) G1) (call_reprD hG hu) (fun ws vs H G K Q r g ⟨xs, e, o, k⟩ q => by
    subst e
    obtain ⟨v, rfl, hv⟩ := rv1 r
    have dp := DW.low (c := cc X) g (pdW (.lst xs)) (.lst xs) v (DW.of _ o.ok) hv
    obtain ⟨a, vs, rfl, _⟩ := hv
    exact ⟨a, pdW (.lst xs), rfl, dp, o.sh, o.nd, o.dp, o.sz, q _ _ (.stay (w := .str _) rfl g k)⟩) hm (by decide +kernel) h hg (by decide) (by decide) he hpl
end AL
namespace AL
open PySem PySem.Spec L2
open PyProof.Rows hiding St
/-! ### a law whose own text asks for repr: its call stands in no guard -/
/-- the promise of a def, where nothing is being shown -/
def FnG (P : Program) (w : World) (K : PySem.W.Frag) (mg : Str → Option Value) (base : Heap) (k : Nat) (f : Addr) (fd : FuncData) (ps : List Str) (sp : Sp) : Prop :=
  ∀ (A : Around) (outer : List Env) (s : Shared) (H : Hp) (args : Args) (us : List Value) (vs : List V) (Q : VK) (E : XK), A.guards = some [] → Room k A → Env0 P w K mg base A outer s H → BindsTo s fd args (ps.zip us) → Vals vs us → sp vs H Q E →
    codeAny (model P w) A (.call (.ref f) args) (CR CX0 outer P w H s Q E) s
section
variable {P : Program} {w : World} {K : PySem.W.Frag} {mg : Str → Option Value} {base : Heap}
theorem fnG_of {x qual : Str} {st : Stmt} {f : Addr} {fd : FuncData} {N ps : List Str} {k : Nat} {sp : ASp} (F : Fun K x qual st f fd) (S : FnScope N ps (defScope st))
    (len : ∀ ws G Kc KE, sp ws G Kc KE → ws.length = ps.length)
    (body : ∀ (cdv : Value) (A : Around) (outer : List Env) (s : Shared) (H : Hp) (E : XK) (ws : List W) (G : AH) (Kc : W → AH → Prop) (KE : XKA), (A.deeper (envOfC qual (defScope st) s.heap.objs.size f cdv)).guards = some [] → Room k (A.deeper (envOfC qual (defScope st) s.heap.objs.size f cdv)) → sp ws G Kc KE →
      SQ (cxOf CX0 P w K mg base N qual (defScope st) f cdv A outer s H E) (defBody st) (startW N ws) G { nx := fun _ G' => ∃ G'', Sub G'' G' ∧ Kc .non G'', rt := fun v G' => ∃ G'', Sub G'' G' ∧ Kc v G'' }) :
    FnG P w K mg base (k + 1) f fd ps (low ⟨P, w, K⟩ sp) := by
  intro A outer s H args us vs Q E hg hr e0 hb r hsp
  obtain ⟨ws, G, Kc, KE, rw', rg, hs, q, _⟩ := hsp
  have hl : vs.length = ps.length := by rw [← rw'.length]; exact len ws G Kc KE hs
  obtain ⟨oc, od, kV, doc, pm, an, cdv, ct, osl, rfl, lk, hcd⟩ := F.ex
  have kp : ∀ b o, base.get? b = some o → s.heap.get? b = some o := fun b o e => (e0.bs b o e).1
  have par : ∀ y ∈ ps.zip us, (defScope st).names.lookup y.1 = some .local ∨ ((defScope st).names.lookup y.1 = some .cell ∧ ((cellsFrom (s.heap.objs.size + 1) (defScope st).names []).lookup y.1).isSome = true) := by
    rintro ⟨n, v⟩ hy
    exact (S.par n (List.of_mem_zip hy).1).imp id fun q => ⟨q, PySem.W.cellsFrom_some _ _ _ (.inl q)⟩
  refine codeAny_call_function hr.depth (e0.mod.kin.keeps kp _ _ lk) rfl S.co S.gen rfl (PySem.W.codeRec_of (e0.mod.kin.keeps kp) hcd) (hb _ _ _ _ (wpAny_newFunctionEnv_cells S.kind par fun env he s1 x => ?_))
  subst he
  refine ⟨(e0.mod.nolimit.keeps kp).keeps x.toInCall.keep, codeAny_func ?_⟩
  have I := inv_start (CX := CX0) (E := E) S hr.hd e0 hl r x
  have b := (body cdv A outer s H E ws G Kc KE hg (hr.deeper _) hs).run [] s1 (start N vs) H I (RS.start rw') rg
  refine wpAny_mono b (fun fl s' z => ?_) fun _ _ z => z
  have fin : ∀ {σ' : L2.St} {H' : Hp} {v : V} {u : Value} {wv : W} {G'' : AH}, Inv (cxOf CX0 P w K mg base N qual (defScope st) f cdv A outer s H E) [] σ' H' s' → RelV v u → Keep H H' → RV H' wv v → RG ⟨P, w, K⟩ H' G'' → Kc wv G'' → CR CX0 outer P w H s Q E (.ok (.ret u)) s' :=
    fun J rv k rw2 g kk => ⟨_, _, J.os, J.bare, J.base, J.hok, rv, q _ _ ⟨_, _, k, rw2, g, kk⟩⟩
  cases fl with
  | ret u =>
    obtain ⟨v, σ', H', J, rv, wv, G', k', r1, g1, G'', s1', kk⟩ := z
    exact fin J rv k' r1 (g1.sub s1') kk
  | next =>
    obtain ⟨σ', H', J, ρ', G', k', _, g1, G'', s1', kk⟩ := z
    exact fin (v := .non) (u := .none) (wv := .non) J rfl k' (show RV H' .non .non from rfl) (g1.sub s1') kk
  | brk =>
    obtain ⟨_, _, _, _, _, _, _, _, z⟩ := z
    exact z.elim
  | cont =>
    obtain ⟨_, _, _, _, _, _, _, _, z⟩ := z
    exact z.elim
end
/-- the heap as the top sees it: the script alone is held apart, and not even that where the module owns it -/
def topH (K : PySem.W.Frag) (a : Addr) (u : HO) : Hp := fun b => if b = a ∧ K.lookup a = none then some u else none
theorem topH_in {K : PySem.W.Frag} {a b : Addr} {u t : HO} (h : topH K a u b = some t) : b = a ∧ K.lookup a = none ∧ t = u := by
  unfold topH at h
  split at h
  · rename_i q; cases h; exact ⟨q.1, q.2, rfl⟩
  · cases h
theorem topH_out {K : PySem.W.Frag} {a b : Addr} {u : HO} (h : ¬ (b = a ∧ K.lookup a = none)) : topH K a u b = none := if_neg h
theorem law_callG {P : Program} {w : World} {K : PySem.W.Frag} {mg mb : Str → Option Value} {k : Nat} {fa a : Addr} {fd : FuncData} {x : Str} {sp : Sp} {s₁ : Shared} {vs : List Value} {ns : List Int}
    (KX : K.In s₁.heap) (hns : s₁.heap.Ns mainGlobals mg) (hb : s₁.heap.Ns builtinsNs mb) (hbb : ∀ x : Str, x ≠ "__name__" → mb x = bootBuiltins x) (hlim : s₁.heap.NoLimit) (hg : s₁.gens = #[])
    (ha : s₁.heap.get? a = some { cls := .type "list", data := .seq vs.toArray }) (hi : IntsAre vs ns) (hl : ns.length ≤ sizeLine) (hr : Room k callerA)
    (F : ∀ base : Heap, K.In base → base.Ns mainGlobals mg → FnG P w K mg base k fa fd [x] sp) (hbind : ∀ (s : Shared) (u : Value), BindsTo s fd ⟨[u], []⟩ [(x, u)])
    (hsp : ∀ H : Hp, Only H → SqL K H a (ns.map V.int) → sp [.ref a] H (fun v _ => v = .bl true) fun _ _ _ => False) :
    codeAny (model P w) callerA (.call (.ref fa) ⟨[.ref a], []⟩) (fun r s' => r = .ok (.ret (.bool true)) ∧ OldK s₁.heap s'.heap ∧ s'.os = s₁.os ∧ AllBare s'.gens) s₁ := by
  have rv := vals_ints hi
  let ob : Obj := { cls := .type "list", data := .seq vs.toArray }
  let H : Hp := topH K a (.frz ob (.lst (ns.map V.int)))
  have O : Only H := fun b => by
    by_cases q : b = a ∧ K.lookup a = none
    · exact .inr ⟨_, _, if_pos q⟩
    · exact .inl (topH_out q)
  have T : ∀ b, H b ≠ none → b = a ∧ K.lookup a = none := fun b q => by
    cases e : H b with
    | none => exact absurd e q
    | some t => exact ⟨(topH_in e).1, (topH_in e).2.1⟩
  have ok : HOk P w H s₁.heap := fun b t e => by
    obtain ⟨rfl, _, rfl⟩ := topH_in e
    exact ⟨ha, by rw [List.length_map]; exact hl, vs, _, rv, ha⟩
  have S : SqL K H a (ns.map V.int) := by
    cases q : K.lookup a with
    | none => exact .inl (.inr ⟨ob, if_pos ⟨rfl, q⟩⟩)
    | some o =>
      have e := KX a o q
      rw [ha] at e
      cases e
      exact .inr ⟨_, vs.toArray, _, q, rfl, rfl, rfl, by rw [List.size_toArray, hi.length]; exact hl, by simpa using rv⟩
  -- what is not the script is seen as it lies
  have see : ∀ {b : Addr} {o : Obj}, s₁.heap.get? b = some o → ¬ (b = a ∧ K.lookup a = none) → (hidT s₁.heap H).get? b = some o := fun e n => hidT_get e (topH_out n)
  have ns' : ∀ {b : Addr} {m : Str → Option Value}, s₁.heap.Ns b m → (hidT s₁.heap H).Ns b m := fun {b m} z => by
    obtain ⟨o, es, ep, e, d, r⟩ := z
    refine ⟨o, es, ep, see e fun q => ?_, d, r⟩
    obtain ⟨rfl, _⟩ := q
    rw [ha] at e; cases e; cases d
  have KI : K.In (hidT s₁.heap H) := fun b o e => see (KX b o e) fun q => by
    obtain ⟨rfl, q⟩ := q
    rw [q] at e; cases e
  obtain ⟨ml, l1, l2⟩ := hlim
  have M : Mod K mg (hidT s₁.heap H) := ⟨KI, ns' hns, ⟨mb, ns' hb, hbb⟩, ⟨ml, ns' l1, l2⟩⟩
  have none' : ∀ b : Addr, b ∈ ([] : List Addr) → False := fun b z => by cases z
  have e0 : Env0 P w K mg (hidT s₁.heap H) callerA [] s₁ H := ⟨rfl, M, fun b o e => of_hidT e, Nat.le_of_eq (hidT_size _ _), trivial, fun b z => (none' b z).elim, ok, .of_eq hg⟩
  refine codeAny_mono (F _ KI (ns' hns) callerA [] s₁ H ⟨[.ref a], []⟩ [.ref a] [.ref a] _ _ rfl hr e0 (hbind s₁ _) (.cons rfl .nil) (hsp H O S)) fun r s' z => ?_
  cases r with
  | error e => exact z.elim
  | ok fl =>
    cases fl with
    | ret u =>
      obtain ⟨v, H', os, bare, un, ok', ru, e⟩ := z
      obtain rfl : v = .bl true := e
      obtain rfl : u = Value.bool true := ru
      refine ⟨rfl, OldK.of_keep fun b o e => ?_, os, bare⟩
      cases q : H b with
      | none => exact un.keep b o e q (fun z => none' b z) (by simp)
      | some t =>
        obtain ⟨_, _, rfl⟩ := topH_in q
        have e1 := (ok b _ q).1
        have e2 := (ok' b _ (un.frzs b _ _ q)).1
        rw [e] at e1; cases e1
        exact e2
    | next => exact False.elim z
    | brk => exact False.elim z
    | cont => exact False.elim z
theorem walk_ofG {l : PySem.W.OpenLaw} {n k : Nat} {q : Program} {loose : List Str} {XP : (Str → Option Value) → Heap → Prop} {YP : World → Heap → Prop} {d : DefRec} {K : Params → PySem.W.Frag} {sp : World → Sp} {x : Str}
    (hn : l.most = some n) (hn2 : n ≤ sizeLine) (hdf : d.params.defaults = []) (hr : Room k callerA)
    (hY : ∀ (w : World) (h : Heap), YP w h → (K w.params).In h)
    (F : ∀ (w : World) (mg : Str → Option Value) (fa : Addr) (h : Heap), (K w.params).In h → h.Ns mainGlobals mg → mg d.name = some (.ref fa) →
      ∃ fd : FuncData, (∀ (s : Shared) (u : Value), BindsTo s fd ⟨[u], []⟩ [(x, u)]) ∧
        ∀ base : Heap, (K w.params).In base → base.Ns mainGlobals mg → FnG l.prog w (K w.params) mg base k fa fd [x] (sp w))
    (hsp : ∀ (w : World) (H : Hp) (a : Addr) (ns : List Int), ns.length ≤ n → Only H → SqL (K w.params) H a (ns.map V.int) → sp w [.ref a] H (fun v _ => v = .bl true) fun _ _ _ => False) :
    PySem.W.WalkO q loose XP YP l.row.toRowW d [] (fun f vs => PySem.call f vs) := by
  refine Att.attach_call hn hdf fun w s₀ s₁ mg mb fa o pm cd doc a vs ns G Y ho hd hcd hmg hobj hints hlen hg => ?_
  have KX := hY w _ Y
  obtain ⟨fd, hb, hF⟩ := F w mg fa _ KX G.T.g hmg
  exact law_callG KX G.T.g G.T.b G.T.builtins G.T.nolimit hg hobj hints (Nat.le_trans hlen hn2) hr hF hb fun H hO hS => hsp w H a ns hlen hO hS
end AL
namespace AL
open PySem PySem.Spec L2
open PyProof.Rows hiding St
/-! ### zip of three lists -/
/-- three lists as they stand at each turn, the items in new triples -/
def Itz3 (K : PySem.W.Frag) (a b c : Addr) : It :=
  ⟨fun i H => ∃ (xs ys zs : List V) (x y z : V), SqL K H a xs ∧ SqL K H b ys ∧ SqL K H c zs ∧ xs[i]? = some x ∧ ys[i]? = some y ∧ zs[i]? = some z,
    fun i H v H' => ∃ T x y z, v = .ref T ∧ H T = none ∧ H' = upd H T (.tup [x, y, z]) ∧ (∀ xs, SqL K H a xs → xs[i]? = some x) ∧ (∀ ys, SqL K H b ys → ys[i]? = some y) ∧ ∀ zs, SqL K H c zs → zs[i]? = some z,
    fun i H => ∃ xs ys zs : List V, SqL K H a xs ∧ SqL K H b ys ∧ SqL K H c zs ∧ (xs.length ≤ i ∨ ys.length ≤ i ∨ zs.length ≤ i)⟩
/-- what an iterator over a list draws from turn i on, were it at its end already -/
theorem drawsTo {prog : Program} {w : World} {A : Around} (hh : A.handled = none) (it l : Addr) (hne : l ≠ it) (items : Array Value) (i : Nat) :
    Draws prog w A it [it, l] (max i items.size) (fun j v => items[j]? = some v) (fun j h => (h.IsListIter it l j ∧ h.IsList l items) ∧ (items.size ≤ i → j = i)) where
  live := fun _ _ st => let ⟨o, ho, _⟩ := st.1.1; ⟨o, ho⟩
  frame := fun _ _ _ st hk => ⟨⟨st.1.1.at fun o e => hk it (by simp) o e, st.1.2.at fun o e => hk l (by simp) o e⟩, st.2⟩
  item := fun j s Q E hj st hQ => by
    have hi : j < items.size := by
      by_cases q : items.size ≤ i
      · have := st.2 q; omega
      · omega
    exact (Draws.list hh it l hne items).item j s Q E hi st.1 fun x h' tk a b c => hQ x h' tk a ⟨b, fun q => by have := st.2 q; omega⟩ c
  done := fun s Q E st hE => wpAny_nextOf_list_end hh st.1.1 st.1.2 (Array.getElem?_eq_none (Nat.le_max_right _ _)) hE
def six (N : Nat) : List Addr := [N + 5, N + 3, N + 4, N, N + 1, N + 2]
def tn3 (N : Nat) (a b c : Addr) (i : Nat) (h : Heap) : Prop := IsZip h (N + 5 : Nat) (N + 3 : Nat) (N + 4 : Nat) .none ∧ IsTupOf3 h (N + 3 : Nat) (.ref (N : Nat)) (.ref (N + 1 : Nat)) (.ref (N + 2 : Nat)) ∧ (∃ x y t, IsTupOf3 h (N + 4 : Nat) x y t) ∧ h.IsListIter (N : Nat) a i ∧ h.IsListIter (N + 1 : Nat) b i ∧ h.IsListIter (N + 2 : Nat) c i
theorem turn_zip3 {P : Program} {w : World} {K : PySem.W.Frag} {elts : List Expr} {kk : Nat} {tpos : Pos} {a b c : Addr} {N : Nat} (la : a < N) (lb : b < N) (lc : c < N) :
    Turn P w K (.Tuple elts kk tpos) (Itz3 K a b c) (six N) (N + 5 : Nat) (tn3 N a b c) where
  mem := by simp [six]
  obj := fun i h st q hq => by
    obtain ⟨hz, hTI, ⟨x, y, t, hTO⟩, ⟨o1, e1, _, d1⟩, ⟨o2, e2, _, d2⟩, ⟨o3, e3, _, d3⟩⟩ := st
    have e' : q = (N + 5 : Nat) ∨ q = (N + 3 : Nat) ∨ q = (N + 4 : Nat) ∨ q = N ∨ q = (N + 1 : Nat) ∨ q = (N + 2 : Nat) := by simpa [six] using hq
    rcases e' with q | q | q | q | q | q
    · rw [q]; exact ⟨_, hz, fun v q => nomatch q⟩
    · rw [q]; exact ⟨_, hTI, fun v q => nomatch q⟩
    · rw [q]; exact ⟨_, hTO, fun v q => nomatch q⟩
    · rw [q]; exact ⟨o1, e1, fun v q => by rw [d1] at q; cases q⟩
    · rw [q]; exact ⟨o2, e2, fun v q => by rw [d2] at q; cases q⟩
    · rw [q]; exact ⟨o3, e3, fun v q => by rw [d3] at q; cases q⟩
  keep := fun i h h' st k => by
    obtain ⟨hz, hTI, ⟨x, y, t, hTO⟩, h1, h2, h3⟩ := st
    exact ⟨k _ (by simp [six]) _ hz, k _ (by simp [six]) _ hTI, ⟨x, y, t, k _ (by simp [six]) _ hTO⟩, h1.at fun o q => k _ (by simp [six]) o q, h2.at fun o q => k _ (by simp [six]) o q, h3.at fun o q => k _ (by simp [six]) o q⟩
  item := by
    intro X hP hw hK hc i pins s σ H E I hf st hg
    subst hP hw hK
    obtain ⟨hz, hTI, ⟨x0, y0, t0, hTO⟩, h1, h2, h3⟩ := st
    obtain ⟨xs, ys, zs, x, y, t, hqx, hqy, hqz, hx, hy, ht⟩ := hg
    obtain ⟨its, rv, p, _⟩ := I.list hqx
    obtain ⟨its2, rv2, p2, _⟩ := I.list hqy
    obtain ⟨its3, rv3, p3, _⟩ := I.list hqz
    obtain ⟨u, hu, ru⟩ := rv.get hx
    obtain ⟨u2, hu2, ru2⟩ := rv2.get hy
    obtain ⟨u3, hu3, ru3⟩ := rv3.get ht
    have hzl : (N + 5 : Nat) < s.heap.objs.size := Heap.lt_size hz
    have hh : X.A.in1.handled = none := I.ok.hd hc
    have S : ZipSep3 (N + 5) (N + 3) (N + 4) N (N + 1) (N + 2) (N :: [a]) ((N + 1) :: [b]) ((N + 2) :: [c]) := zip_sep3 (by simpa using la) (by simpa using lb) (by simpa using lc)
    have nz : (N + 3 : Nat) ≠ N + 5 ∧ (N + 3 : Nat) ≠ N + 4 ∧ (N + 3 : Nat) ≠ N ∧ (N + 3 : Nat) ≠ N + 1 ∧ (N + 3 : Nat) ≠ N + 2 ∧ (N + 4 : Nat) ≠ N + 5 := by omega
    refine wpAny_pyNext_zipD3_item S (Draws.list hh N a (Nat.ne_of_lt la) its.toArray) (Draws.list hh (N + 1) b (Nat.ne_of_lt (Nat.lt_succ_of_lt lb)) its2.toArray) (Draws.list hh (N + 2) c (Nat.ne_of_lt (Nat.lt_succ_of_lt (Nat.lt_succ_of_lt lc))) its3.toArray) hz hTI hTO ⟨h1, p.isList⟩ ⟨h2, p2.isList⟩ ⟨h3, p3.isList⟩ ?_ ?_ ?_ fun x1 x2 x3 h' tk y1 y2 y3 z' TO' st1 st2 st3 hT hsz hk => ?_
    · have := (List.getElem?_eq_some_iff.mp hu).1; simpa using this
    · have := (List.getElem?_eq_some_iff.mp hu2).1; simpa using this
    · have := (List.getElem?_eq_some_iff.mp hu3).1; simpa using this
    obtain rfl : x1 = u := by rw [show its.toArray[i]? = its[i]? from by simp, hu] at y1; cases y1; rfl
    obtain rfl : x2 = u2 := by rw [show its2.toArray[i]? = its2[i]? from by simp, hu2] at y2; cases y2; rfl
    obtain rfl : x3 = u3 := by rw [show its3.toArray[i]? = its3[i]? from by simp, hu3] at y3; cases y3; rfl
    refine ⟨_, rfl, wpAny_letOwnedTupleGo_zip (s := { s with heap := h', toks := tk }) z' fun h'' z'' sb => ?_⟩
    have hT2 : h''.get? s.heap.objs.size = some { cls := .type "tuple", data := .seq #[x1, x2, x3] } := (sb.2 _ (Nat.ne_of_gt hzl)).trans hT
    have new : ObjOk X.prog X.w (upd H s.heap.objs.size (.tup [x, y, t])) h'' s.heap.objs.size (.tup [x, y, t]) :=
      ⟨by show 3 ≤ sizeLine; decide, [x1, x2, x3], .cons ru (.cons ru2 (.cons ru3 .nil)), ⟨_, hT2, rfl, _, rfl⟩⟩
    have I1 : Inv X pins σ (upd H s.heap.objs.size (.tup [x, y, t])) { s with heap := h'', toks := tk } :=
      I.turnedNew (t' := tk) (ch := six N) (fun q o hb e => (sb.2 q (fun q' => hb (by simp [six, q']))).trans (hk q o (fun q' => hb (by simp [six, q'])) (fun q' => hb (by simp [six, q'])) (fun q' => hb (by simp [six, q'])) (fun q' => hb (by simp [six, q'])) (fun q' => hb (by simp [six, q'])) e)) hf (Nat.le_refl _) new
    refine ⟨.ref s.heap.objs.size, _, I1, rfl, ⟨_, x, y, t, rfl, I.hok.fresh (Nat.le_refl _), rfl, fun l hl => by rw [I.list_inj hl hqx]; exact hx, fun l hl => by rw [I.list_inj hl hqy]; exact hy, fun l hl => by rw [I.list_inj hl hqz]; exact ht⟩, ⟨z'', ?_, ⟨x1, x2, x3, ?_⟩, ?_, ?_, ?_⟩, fun q hqm => ?_⟩
    · exact (sb.2 _ S.TIz).trans (hk _ _ S.TIz S.TITO S.TIi1 S.TIi2 S.TIi3 hTI)
    · exact (sb.2 _ S.TOz).trans TO'
    · exact st1.1.at fun o q => (sb.2 _ S.zi1.symm).trans q
    · exact st2.1.at fun o q => (sb.2 _ S.zi2.symm).trans q
    · exact st3.1.at fun o q => (sb.2 _ S.zi3.symm).trans q
    · have hlt : q < s.heap.objs.size := by
        have e' : q = (N + 5 : Nat) ∨ q = (N + 3 : Nat) ∨ q = (N + 4 : Nat) ∨ q = N ∨ q = (N + 1 : Nat) ∨ q = (N + 2 : Nat) := by simpa [six] using hqm
        rcases e' with q | q | q | q | q | q <;> rw [q]
        · exact hzl
        · exact Heap.lt_size hTI
        · exact Heap.lt_size hTO
        · obtain ⟨_, e1, _⟩ := h1; exact Heap.lt_size e1
        · obtain ⟨_, e2, _⟩ := h2; exact Heap.lt_size e2
        · obtain ⟨_, e3, _⟩ := h3; exact Heap.lt_size e3
      rw [upd_ne (Nat.ne_of_lt hlt)]
      exact (hf q hqm).1
  done := by
    intro X hP hw hK hc i pins s σ H E I hf st hg
    subst hP hw hK
    obtain ⟨hz, hTI, ⟨x0, y0, t0, hTO⟩, h1, h2, h3⟩ := st
    obtain ⟨xs, ys, zs, hqx, hqy, hqz, hend⟩ := hg
    obtain ⟨its, rv, p, _⟩ := I.list hqx
    obtain ⟨its2, rv2, p2, _⟩ := I.list hqy
    obtain ⟨its3, rv3, p3, _⟩ := I.list hqz
    have l1 := rv.length
    have l2 := rv2.length
    have l3 := rv3.length
    have hh : X.A.in1.handled = none := I.ok.hd hc
    have S : ZipSep3 (N + 5) (N + 3) (N + 4) N (N + 1) (N + 2) (N :: [a]) ((N + 1) :: [b]) ((N + 2) :: [c]) := zip_sep3 (by simpa using la) (by simpa using lb) (by simpa using lc)
    refine wpAny_pyNext_zipD3_end S (drawsTo hh N a (Nat.ne_of_lt la) its.toArray i) (drawsTo hh (N + 1) b (Nat.ne_of_lt (Nat.lt_succ_of_lt lb)) its2.toArray i) (drawsTo hh (N + 2) c (Nat.ne_of_lt (Nat.lt_succ_of_lt (Nat.lt_succ_of_lt lc))) its3.toArray i) hz hTI hTO ⟨⟨h1, p.isList⟩, fun _ => rfl⟩ ⟨⟨h2, p2.isList⟩, fun _ => rfl⟩ ⟨⟨h3, p3.isList⟩, fun _ => rfl⟩ (Nat.le_max_left _ _) (Nat.le_max_left _ _) (Nat.le_max_left _ _) (by simp only [List.size_toArray]; omega) fun h' tk hk => ⟨rfl, I.turnedL (t' := tk) (ch := six N) (fun q o hb e => hk q o (fun q' => hb (by simp [six, q'])) (fun q' => hb (by simp [six, q'])) (fun q' => hb (by simp [six, q'])) (fun q' => hb (by simp [six, q'])) (fun q' => hb (by simp [six, q'])) e) hf⟩
  self := fun A i s Q E st h => wpAny_pyIter_zip st.1 h
theorem vals3 {v1 v2 v3 : V} {us : List Value} (h : Vals [v1, v2, v3] us) : ∃ u1 u2 u3, us = [u1, u2, u3] ∧ RelV v1 u1 ∧ RelV v2 u2 ∧ RelV v3 u3 := by
  cases h with
  | cons r h =>
    cases h with
    | cons r' h =>
      cases h with
      | cons r2 h =>
        cases h
        exact ⟨_, _, _, rfl, r, r', r2⟩
def iZip3 (K : PySem.W.Frag) (ta : TA) : TI := fun σ H R => ta σ H fun vs H1 => ∃ a b c xs ys zs, vs = [.ref a, .ref b, .ref c] ∧ SqL K H1 a xs ∧ SqL K H1 b ys ∧ SqL K H1 c zs ∧ R (Itz3 K a b c) H1
theorem pi_zip3 {X : Cx} {e e2 e3 : Expr} {ta : TA} {p pos tpos : Pos} {elts : List Expr} {kk : Nat} (hg : Gl X "zip") (hm : X.mg "zip" = none) (ha : PA X [e, e2, e3] ta)
    (hs : starEach [e, e2, e3] X.env = (false, eval e X.env) :: starEach [e2, e3] X.env := by rfl) (hpl : (backTo pos (starEach [e2, e3] X.env)).any (·.1) = false := by rfl) :
    PI X (.Tuple elts kk tpos) (.Call (.Name "zip" p) [e, e2, e3] [] pos) (iZip3 X.K ta) := by
  refine ⟨fun pins s σ H R I h => ?_⟩
  refine Call_ (ld_blt I hg hm PyProof.Rows.boot_zip (PyProof.Rows.callWith_type1 (thn (ha.run pos pins s σ H _ I h) fun us s1 ⟨vs, H1, I1, r1, q1⟩ => ?_) hs hpl))
  obtain ⟨a, b, c, xs, ys, zs, ex, hqx, hqy, hqz, q⟩ := q1
  subst ex
  obtain ⟨u1, u2, u3, rfl, r, r', r2⟩ := vals3 r1
  cases r
  cases r'
  cases r2
  obtain ⟨its, rv, p1, _⟩ := I1.list hqx
  obtain ⟨its2, rv2, p2, _⟩ := I1.list hqy
  obtain ⟨its3, rv3, p3, _⟩ := I1.list hqz
  refine zip_begins3 (begins_list a its.toArray) (begins_list b its2.toArray) (begins_list c its3.toArray) p1.isList p2.isList p3.isList fun h' hz hTI hTO h1 h2 h3 hsz hk => wpAny_pyIter_zip hz ?_
  have I2 : Inv X pins σ H1 { s1 with heap := h' } := I1.kept (t' := s1.toks) hk
  refine ⟨(s1.heap.objs.size + 5 : Nat), six s1.heap.objs.size, _, _, H1, rfl, I2, turn_zip3 p1.lt p2.lt p3.lt, ⟨hz, hTI, ⟨_, _, _, hTO⟩, ⟨_, h1, rfl, rfl⟩, ⟨_, h2, rfl, rfl⟩, ⟨_, h3, rfl, rfl⟩⟩, fun c hcm => ?_, q⟩
  have hle : s1.heap.objs.size ≤ c := by
    have e' : c = (s1.heap.objs.size + 5 : Nat) ∨ c = (s1.heap.objs.size + 3 : Nat) ∨ c = (s1.heap.objs.size + 4 : Nat) ∨ c = s1.heap.objs.size ∨ c = (s1.heap.objs.size + 1 : Nat) ∨ c = (s1.heap.objs.size + 2 : Nat) := by simpa [six] using hcm
    rcases e' with z | z | z | z | z | z
    · rw [z]; exact Nat.le_add_right _ _
    · rw [z]; exact Nat.le_add_right _ _
    · rw [z]; exact Nat.le_add_right _ _
    · rw [z]; exact Nat.le_refl _
    · rw [z]; exact Nat.le_add_right _ _
    · rw [z]; exact Nat.le_add_right _ _
  exact I1.fpOk hle (I1.hok.fresh hle)
section
variable {X : Cx} {a b d : Expr} {ρ : AS} {G : AH} {R : List W → (AH → Prop) → AH → Prop}
def zi3 (xs ys zs : List W) : List W := (xs.zip (ys.zip zs)).map fun p => .tup [p.1, p.2.1, p.2.2]
theorem zi3_length (xs ys zs : List W) : (zi3 xs ys zs).length = min xs.length (min ys.length zs.length) := by simp [zi3]
theorem zi3_get {xs ys zs : List W} {i : Nat} {w v u : W} (h : xs[i]? = some w) (h2 : ys[i]? = some v) (h3 : zs[i]? = some u) : (zi3 xs ys zs)[i]? = some (.tup [w, v, u]) := by
  have e : (xs.zip (ys.zip zs))[i]? = some (w, v, u) := by rw [List.getElem?_zip_eq_some]; exact ⟨h, by rw [List.getElem?_zip_eq_some]; exact ⟨h2, h3⟩⟩
  simp only [zi3, List.getElem?_map, e]
  rfl
theorem i_zip3 {elts : List Expr} {kk : Nat} {p pos tpos : Pos} (hg : Gl X "zip") (hm : X.mg "zip" = none) (h : EQ X a ρ G fun w G1 => EQ X b ρ G1 fun w' G2 => EQ X d ρ G2 fun w3 G3 => ∃ xs ys zs, LsA G3 w xs ∧ LsA G3 w' ys ∧ LsA G3 w3 zs ∧ R (zi3 xs ys zs) (fun G => LsA G w xs ∧ LsA G w' ys ∧ LsA G w3 zs) G3)
    (hs1 : starEach [d] X.env = (false, eval d X.env) :: starEach [] X.env := by rfl) (hs : starEach [b, d] X.env = (false, eval b X.env) :: starEach [d] X.env := by rfl) (hs2 : starEach [a, b, d] X.env = (false, eval a X.env) :: starEach [b, d] X.env := by rfl) (hpl : (backTo pos (starEach [b, d] X.env)).any (·.1) = false := by rfl) :
    IQ X (.Tuple elts kk tpos) (.Call (.Name "zip" p) [a, b, d] [] pos) ρ G R :=
  IQ.of (pi_zip3 hg hm (pa_cons pe_E (pa_cons pe_E (pa_cons pe_E pa_nil hs1) hs) hs2) hs2 hpl) fun σ H rs rg => ⟨ρ, G, _, h, rs, rg, fun u H1 ⟨w, G1, k1, rx, rg1, q⟩ => ⟨ρ, G1, _, q, rs.mono k1, rg1, fun u2 H2 ⟨w2, G2, k2, ry, rg2, q2⟩ => ⟨ρ, G2, _, q2, (rs.mono k1).mono k2, rg2, fun u3 H3 ⟨w3, G3, k3, rz, rg3, xs, ys, zs, hl, hm', hn, q3⟩ => by
    have rx := (rx.mono k2).mono k3
    have ry := ry.mono k3
    obtain ⟨l, vs, e1, hv, _⟩ := hl.sq rg3 rx
    obtain ⟨m, us, e2, hu, _⟩ := hm'.sq rg3 ry
    obtain ⟨n, ts, e3, ht, _⟩ := hn.sq rg3 rz
    subst e1 e2 e3
    refine ⟨l, m, n, vs, us, ts, rfl, hv, hu, ht, zi3 xs ys zs, _, G3, (k1.trans k2).trans k3, rg3, ⟨fun i H4 G4 k4 rg4 o4 hi => ?_, fun i H4 G4 v H5 k4 rg4 o4 hi y => ?_, fun i H4 G4 k4 rg4 o4 hi => ?_⟩, q3⟩
    · rw [zi3_length] at hi
      obtain ⟨a2, vs2, e2, hv2, r2⟩ := LsA.sq rg4 o4.1 (rx.mono k4)
      cases e2
      obtain ⟨a3, us2, e3, hu2, s2⟩ := LsA.sq rg4 o4.2.1 (ry.mono k4)
      cases e3
      obtain ⟨a4, ts2, e4, ht2, t2⟩ := LsA.sq rg4 o4.2.2 (rz.mono k4)
      cases e4
      obtain ⟨v, h1, _⟩ := r2.get (show xs[i]? = some (xs[i]'(by omega)) by simp [show i < xs.length by omega])
      obtain ⟨v', h2, _⟩ := s2.get (show ys[i]? = some (ys[i]'(by omega)) by simp [show i < ys.length by omega])
      obtain ⟨v'', h3, _⟩ := t2.get (show zs[i]? = some (zs[i]'(by omega)) by simp [show i < zs.length by omega])
      exact ⟨vs2, us2, ts2, v, v', v'', hv2, hu2, ht2, h1, h2, h3⟩
    · obtain ⟨T, x, x', x'', e1, hT, e2, y, y', y''⟩ := y
      subst e1 e2
      obtain ⟨a2, vs2, e2, hv2, r2⟩ := LsA.sq rg4 o4.1 (rx.mono k4)
      cases e2
      obtain ⟨a3, us2, e3, hu2, s2⟩ := LsA.sq rg4 o4.2.1 (ry.mono k4)
      cases e3
      obtain ⟨a4, ts2, e4, ht2, t2⟩ := LsA.sq rg4 o4.2.2 (rz.mono k4)
      cases e4
      obtain ⟨w, h1, h2⟩ := r2.back (y vs2 hv2)
      obtain ⟨w', h1', h2'⟩ := s2.back (y' us2 hu2)
      obtain ⟨w'', h1'', h2''⟩ := t2.back (y'' ts2 ht2)
      exact ⟨Keep.new hT, rg4.tup hT, _, zi3_get h1 h1' h1'', T, _, rfl, upd_same, .cons (h2.mono (Keep.new hT)) (.cons (h2'.mono (Keep.new hT)) (.cons (h2''.mono (Keep.new hT)) RVs.nil))⟩
    · rw [zi3_length] at hi
      obtain ⟨a2, vs2, e2, hv2, r2⟩ := LsA.sq rg4 o4.1 (rx.mono k4)
      cases e2
      obtain ⟨a3, us2, e3, hu2, s2⟩ := LsA.sq rg4 o4.2.1 (ry.mono k4)
      cases e3
      obtain ⟨a4, ts2, e4, ht2, t2⟩ := LsA.sq rg4 o4.2.2 (rz.mono k4)
      cases e4
      exact ⟨vs2, us2, ts2, hv2, hu2, ht2, by rw [← r2.length, ← s2.length, ← t2.length]; omega⟩⟩⟩⟩
end
end AL
namespace AL
open PySem PySem.Spec L2
open PyProof.Rows hiding St
/-! ### sorted of a tuple of whole numbers -/
def rSortedT (K : PySem.W.Frag) : List V → Hp → VK → Prop := fun vs H Q => ∃ (a : Addr) (ns : List Int), vs = [V.ref a] ∧ SqT K H a (ns.map V.int) ∧
  ∀ (ns' : List Int) (p : Addr), ns'.Perm ns → ns'.Pairwise (· ≤ ·) → H p = none → Q (.ref p) (upd H p (.lst (ns'.map V.int)))
theorem call_sortedT {X : Cx} : CallR X (.builtin "sorted") (rSortedT X.K) := by
  intro pins s σ H vs us Q I r h
  obtain ⟨a, ns, rfl, hs, q⟩ := h
  obtain ⟨its, rv, hl, hz⟩ := I.tuple hs
  rw [Vals.ref1 r]
  have hi := rv.ints
  have hz' : its.length ≤ sizeLine := by rw [← rv.length]; exact hz
  obtain ⟨o, ho, hc, nn, hd⟩ := id hl
  refine Calls.call_function_entry PyProof.Rows.kind_sorted PyProof.Rows.plain_sorted PyProof.Rows.entry_sorted (PyProof.Rows.args_sorted1 _) ?_
  unfold Builtin.«sorted»
  refine wpAny_bind (m := checkCount "sorted" 1 1 _) (wpAny_pure ?_)
  refine wpAny_bind (wpAny_collect_seq a (.inr rfl) ho hc hd (fun h' hk => ?_) (by simpa using hz'))
  have I1 : Inv X pins σ H { s with heap := h' } := I.kept (t' := s.toks) hk
  have hoL : (h'.push (seqObj "list" its.toArray 0)).get? h'.objs.size = some (seqObj "list" its.toArray 0) := Heap.get?_push_size _ rfl
  show wpAny _ _ (newList its >>= _) _ _ _
  refine wpAny_bind (wpAny_newList ?_ hz')
  refine wpAny_bind (wpAny_holding (wpAny_call_entry PyProof.Rows.slot_list_sort ⟨_, hoL, rfl⟩ PyProof.Rows.entry_list_sort
    (SrtO.list_sort_ord SrtO.swo_int hoL hz' (fun h2 => SrtO.ints_sortable hi h2) fun out h1 h2 => ⟨_, rfl, ?_⟩) (PyProof.Rows.args_list_sort _)))
  refine wpAny_pure ⟨_, rfl, ?_⟩
  obtain ⟨k1, k2, k3⟩ := SrtO.ints_out hi h1 h2
  obtain ⟨ep, he'⟩ := PyProof.Rows.sortedHeap_at (vs := its) (out := out.toArray) hoL
  have hlen : ((out.map SrtO.iv).map V.int).length ≤ sizeLine := by
    rw [List.length_map, k2.length_eq]
    rw [List.length_map] at hz
    exact hz
  refine ⟨.ref h'.objs.size, upd H h'.objs.size (.lst ((out.map SrtO.iv).map V.int)), I1.laid (t' := s.toks) (fun b u hu => ?_) (Nat.le_refl _) ⟨hlen, out, ep, vals_of_ints k1, he'⟩, rfl, q _ _ k2 k3 (I1.hok.fresh (Nat.le_refl _))⟩
  have hlt : b < h'.objs.size := Heap.lt_size hu
  rw [PyProof.Rows.sortedHeap_old (Nat.ne_of_lt hlt) (by rw [PyProof.Rows.size_push']; exact Nat.lt_succ_of_lt hlt)]
  exact Heap.get?_push_of_some _ hu
section
variable {X : Cx} {e : Expr} {es : List Expr} {p pos : Pos} {ρ : AS} {G : AH} {K : W → AH → Prop}
def fSortT : CRW := fun ws G K => match ws with
  | [.tup xs] => ∃ ns : List Int, xs = ns.map W.int ∧ ∀ (ms : List Int) (p : Addr), ms.Perm ns → ms.Pairwise (· ≤ ·) → G p = none → K (.ref p) (aup G p (.lst (ms.map W.int)))
  | _ => False
theorem cr_srtT {c : Ct} : CR' c (rSortedT c.K) fSortT := by
  intro ws vs H G K Q r g h q
  match ws, h with
  | [.tup xs], ⟨ns, ex, k⟩ =>
    subst ex
    obtain ⟨v, rfl, hv⟩ := rv1 r
    obtain ⟨a, us, rfl, hu, rr⟩ := hv
    cases rr.ints_eq
    exact ⟨a, ns, rfl, .inl (.inl hu), fun ms p h1 h2 hp => q _ _ ⟨.ref p, _, Keep.new hp, rfl, g.newL hp (RVs.ints ms), k ms p h1 h2 (g.free hp)⟩⟩
theorem q_sortedT (hm : X.mg "sorted" = none) (h : AQ X (e :: es) ρ G fun ws G1 => fSortT ws G1 K) (hg : Gl X "sorted" := by rfl)
    (he : starEach (e :: es) X.env = (false, eval e X.env) :: starEach es X.env := by rfl) (hpl : (backTo pos (starEach es X.env)).any (·.1) = false := by rfl) : EQ X (.Call (.Name "sorted" p) (e :: es) [] pos) ρ G K :=
  q_callB call_sortedT cr_srtT hm (by decide +kernel) h hg (by decide) (by decide) he hpl
end
end AL
namespace AL
open PySem PySem.Spec L2
open PyProof.Rows hiding St
/-! ### the keys of a dict, keys that are tuples -/
def ItKN (P : Program) (w : World) (d : Addr) (o : Obj) (es : NEs) : It :=
  ⟨fun i H => H d = some (.frz o (.ext (rawN P w d es))) ∧ i < es.length, fun i H x H' => H' = H ∧ ∃ p, es[i]? = some p ∧ x = .ref p.2.1, fun i H => H d = some (.frz o (.ext (rawN P w d es))) ∧ es.length ≤ i⟩
theorem turn_keysN {P : Program} {w : World} {K : PySem.W.Frag} {tg : Expr} {d : Addr} {o : Obj} {es : NEs} {es0 : Array DictEntry} {ep : Nat} (it : Addr) (hod : o.data = .dict es0 ep) :
    Turn P w K tg (ItKN P w d o es) [it] it (fun i h => h.IsKeyIter it d i es.length ep) where
  mem := by simp
  obj := fun i h st b hb => by
    have e : b = it := by simpa using hb
    subst e
    obtain ⟨oi, e, c, dd⟩ := st
    exact ⟨oi, e, fun v z => by rw [dd] at z; cases z⟩
  keep := fun i h h' st k => st.at fun oi e => k it (by simp) oi e
  item := by
    intro X hP hw hK hc i pins s σ H E I hf st hg
    subst hP hw hK
    obtain ⟨hd, hi⟩ := hg
    obtain ⟨f0, f1, f2, f3, f4, f5⟩ := hf it (by simp)
    obtain ⟨ns, ho, hx, es', ep', hdt, hsz, hat⟩ := frzN I hd
    obtain ⟨rfl, rfl⟩ := dict_ep hod hdt
    obtain ⟨p, hp⟩ : ∃ p, es[i]? = some p := ⟨es[i], List.getElem?_eq_getElem hi⟩
    have hi' : i < es'.size := by omega
    obtain ⟨k1, k2⟩ := hat i hi' p hp
    rw [← hsz] at st
    refine wpAny_pyNext_keys_item_raw st ⟨o, ho, hx, hdt⟩ hi' fun h' st' sb => ?_
    have I1 : Inv X pins σ H { s with heap := h' } := I.turned (t' := s.toks) (fun b ob hb e => (sb.2 b hb).trans e) f0 f1 f3 f4 f5
    obtain ⟨oi, e, c, dd⟩ := id st'
    rw [k1]
    refine ⟨_, rfl, go_of (s := { s with heap := h' }) e c dd (by decide) ⟨.ref p.2.1, H, I1, rfl, ⟨rfl, p, hp, rfl⟩, ?_, fun b hb => (hf b hb).1⟩⟩
    show h'.IsKeyIter it d (i + 1) es.length _
    rw [← hsz]
    exact st'
  done := by
    intro X hP hw hK hc i pins s σ H E I hf st hg
    subst hP hw hK
    obtain ⟨hd, hi⟩ := hg
    obtain ⟨f0, f1, f2, f3, f4, f5⟩ := hf it (by simp)
    obtain ⟨ns, ho, hx, es', ep', hdt, hsz, hat⟩ := frzN I hd
    obtain ⟨rfl, rfl⟩ := dict_ep hod hdt
    rw [← hsz] at st
    exact wpAny_pyNext_keys_end_raw (I.ok.hd hc) st ⟨o, ho, hx, hdt⟩ (by omega) fun h' eb => ⟨rfl, I.turned (t' := s.toks) (fun b ob hb e => eb b ob hb e) f0 f1 f3 f4 f5⟩
  self := fun A i s Q E st h => wpAny_pyIter_keyiter st h
def iKeysN (P : Program) (w : World) (td : TE) : TI := fun σ H R => td σ H fun x H1 => ∃ d o es, x = .ref d ∧ H1 d = some (.frz o (.ext (rawN P w d es))) ∧ R (ItKN P w d o es) H1
theorem pi_keysN {X : Cx} {tg e : Expr} {td : TE} (he : PE X e td) : PI X tg e (iKeysN X.prog X.w td) := by
  refine ⟨fun pins s σ H R I h => ?_⟩
  refine thn (he.run pins s σ H _ I h) fun u s1 ⟨x, H1, I1, rx, d, o, es, ex, hd, q⟩ => ?_
  subst ex
  obtain rfl : u = Value.ref d := rx
  obtain ⟨ns, ho, hx, es', ep, hdt, hsz, hat⟩ := frzN I1 hd
  refine iter_keys ns ho hx hdt (pi_one (tk := s1.toks) I1 _ (turn_keysN _ hdt) ⟨_, Heap.get?_push_size _ rfl, rfl, ?_⟩ q)
  rw [hsz] <;> rfl
section
variable {X : Cx} {tg e : Expr} {ρ : AS} {G : AH} {R : IK}
theorem i_keysN (h : EQ X e ρ G fun w G1 => ∃ d kws, w = .ref d ∧ G1 d = some (.zN kws) ∧ R (kws.map fun kv => kv.1) (fun G => G d = some (.zN kws)) G1) : IQ X tg e ρ G R :=
  IQ.of (pi_keysN pe_E) fun σ H rs rg => ⟨ρ, G, _, h, rs, rg, fun u H1 ⟨w, G1, k1, rx, rg1, d, kws, e, hd, q⟩ => by
    subst e
    obtain ⟨o, es, h1, h2⟩ := rg1 d _ hd
    have l2 : kws.length = es.length := Paired.length h2
    refine ⟨d, o, es, rx, h1, _, _, G1, k1, rg1, ⟨fun i H2 G2 k2 rg2 o2 hi => ?_, fun i H2 G2 v H3 k2 rg2 o2 hi y => ?_, fun i H2 G2 k2 rg2 o2 hi => ?_⟩, q⟩
    · rw [List.length_map, l2] at hi
      exact ⟨k2.f _ _ _ h1, hi⟩
    · obtain ⟨e3, p, hp, e2⟩ := y
      subst e2 e3
      rw [List.length_map] at hi
      obtain ⟨kw, hkw⟩ : ∃ kw, kws[i]? = some kw := ⟨kws[i], List.getElem?_eq_getElem hi⟩
      obtain ⟨p', hp', r⟩ := paired_at h2 hkw
      rw [hp] at hp'; cases hp'
      exact ⟨Keep.refl, rg2, kw.1, by rw [List.getElem?_map, hkw]; rfl, r.2.2.2.1.mono k2⟩
    · rw [List.length_map, l2] at hi
      exact ⟨k2.f _ _ _ h1, hi⟩⟩
end
end AL
namespace AL
open PySem PySem.Spec L2
open PyProof.Rows hiding St
section
variable {X : Cx} {o i : Expr} {pos : Pos} {ρ : AS} {G : AH} {K : W → AH → Prop}
/-- d[k] of a dict with tuples as keys, tracked or locked -/
def fDgetA : WR := fun x y G K => match x with
  | .ref d => ∃ kws w, DnA G (.ref d) kws ∧ keyOk y = true ∧ lk kws y = some w ∧ K w G
  | _ => False
theorem q_dgetA (hu : X.A.units + 9 < cLine) (h : EQ X o ρ G fun x G1 => EQ X i ρ G1 fun y G2 => fDgetA x y G2 K) (hs : NoSl i := by exact fun _ _ => rfl) : EQ X (.Subscript o i pos) ρ G K := ⟨fun pins s σ H I rs rg => by
  refine subD_of PySem.F.slot_dict_getitem.lookup hs (thn (h.run pins s σ H I rs rg) fun u s1 ⟨v, H1, I1, r1, x, G1, k1, rx, rg1, q1⟩ => thn (q1.run pins s1 σ H1 I1 (rs.mono k1) rg1) fun iv s2 ⟨v2, H2, I2, r2, y, G2, k2, ry, rg2, q2⟩ => ?_)
  cases x with
  | ref d =>
    obtain ⟨kws, w, hd, hk, hw, k⟩ := q2
    cases (show v = .ref d from rx)
    cases (show u = Value.ref d from r1)
    obtain ⟨bk, e⟩ := ref_of hk ry
    subst e
    cases (show iv = Value.ref bk from r2)
    obtain ⟨es, xs, r, e, hz, ns, dd, _⟩ := dictN_rd I2 rg2 hd
    obtain ⟨hk1, hk2⟩ := keyOk_k hk
    refine ⟨dd.typeIs, ?_⟩
    have f := found_of r e hk1
    rw [hw] at f
    obtain ⟨b', v', u', f1, f2, f3⟩ := f
    exact wpAny_getItem_heap (knd := nestedKind X.prog X.w) (k := nk y) (show X.A.in1.units + 8 < cLine by show X.A.units + 1 + 8 < cLine; omega) ⟨nested_of I2 y _ _ hk1 ry rfl, hk2⟩ dd f1 ⟨v', H2, I2.tok _, f3, w, G2, k1.trans k2, f2, rg2, k⟩
  | _ => exact q2.elim⟩
end
end AL
namespace AL
open PySem PySem.Spec L2
open PyProof.Rows hiding St
/-! ### dicts compared whose values are data -/
def EqD (K : PySem.W.Frag) (H : Hp) (v v' : V) : Prop := ∃ d e, Dp K H v d ∧ Dp K H v' e ∧ SeqAt.shaped d = true ∧ SeqAt.shaped e = true ∧ PyData.eqv d e = true
def rDicts (b : Bool) (K : PySem.W.Frag) : R2 := fun x y H Q => ∃ p q ks ls, x = .ref p ∧ y = .ref q ∧ Rd H p (.dK ks) ∧ Rd H q (.dK ls) ∧ ks.length = ls.length ∧ (∀ z ∈ ks, ∃ v, valV ls z.1 = some v ∧ EqD K H z.2 v) ∧ Q (.bl b) H
theorem dict_rd {X : Cx} {pins : List (Addr × Obj)} {σ : L2.St} {H : Hp} {s : Shared} {d : Addr} {kvs : List (Key × V)} (I : Inv X pins σ H s) (h : Rd H d (.dK kvs)) : (d == sysModules) = false ∧ ∃ vs, KV kvs vs ∧ s.heap.DictOf (mixKind X.prog X.w) d vs := by
  rcases h with h | ⟨o, h⟩
  · obtain ⟨_, ya, va, ra, da⟩ := (show ObjOk X.prog X.w H s.heap d (.dK kvs) from I.hok d _ h)
    exact ⟨ya, va, ra, da⟩
  · obtain ⟨_, _, ya, va, ra, da⟩ := I.hok d _ h
    exact ⟨ya, va, ra, da⟩
theorem eqd_at {X : Cx} {pins : List (Addr × Obj)} {σ : L2.St} {H : Hp} {s : Shared} (I : Inv X pins σ H s) {A : Around} (hu : A.units + 64 < cLine) {v v' : V} {u u' : Value} (h : EqD X.K H v v') (r : RelV v u) (r' : RelV v' u') : SeqAt.EqAt A s u u' true := by
  obtain ⟨d, e, h1, h2, s1, s2, q⟩ := h
  obtain ⟨as, r1⟩ := Dp.reads I d v u h1 r
  obtain ⟨bs, r2⟩ := Dp.reads I e v' u' h2 r'
  have := SeqAt.eqAt_reads d e A s u u' as bs r1 r2 (SeqAt.canLay_of_shaped s1) (SeqAt.canLay_of_shaped s2) (SeqAt.room_of_shaped s1 hu)
  rw [q] at this
  exact this
theorem hits_data {X : Cx} {pins : List (Addr × Obj)} {σ : L2.St} {H : Hp} {s : Shared} (I : Inv X pins σ H s) {A : Around} (hu : A.units + 64 < cLine) {kvs : List (Key × V)} {vb : List (Key × Value)} (rb : KV kvs vb) {ks : List (Key × V)} {va : List (Key × Value)} (ra : KV ks va) :
    (∀ z ∈ ks, ∃ v, valV kvs z.1 = some v ∧ EqD X.K H z.2 v) → PySem.W.KeqHits A s vb va true := by
  unfold KV at ra
  induction ra with
  | nil => intro _; exact .nil
  | @cons p q ps qs h t ih =>
    intro hp
    obtain ⟨h1, h2⟩ := h
    obtain ⟨v', e, f⟩ := hp p List.mem_cons_self
    have rr : RelO (some v') (valueAt vb p.1) := by rw [← e]; exact rb.val p.1
    obtain ⟨y, hy, ry⟩ := rr.some_of
    obtain ⟨k, v⟩ := q
    have h1' : p.1 = k := h1
    rw [h1'] at hy
    show PySem.W.KeqHits A s vb ((k, v) :: qs) (true && true)
    exact .hit hy (eqd_at I hu f h2 ry) (ih fun p' hm => hp p' (List.mem_cons_of_mem _ hm))
section
variable {X : Cx} {a b : Expr} {pos : Pos} {ρ : AS} {G : AH} {K : W → AH → Prop} {KB : Bool → AH → Prop}
theorem op_dictsEq (hu : X.A.units + 65 < cLine) : OpR X (compareOp .Eq) (rDicts true X.K) := by
  intro pins s σ H x y v u Q I rx ry h
  obtain ⟨a, b, ks, ls, rfl, rfl, ea, eb, hlen, hp, q⟩ := h
  obtain rfl : v = Value.ref a := rx
  obtain rfl : u = Value.ref b := ry
  obtain ⟨ya, va, ra, da⟩ := dict_rd I ea
  obtain ⟨yb, vb, rb, db⟩ := dict_rd I eb
  have hl : va.length = vb.length := by rw [← ra.length, ← rb.length]; exact hlen
  refine PySem.W.keq_eq (knd := mixKind X.prog X.w) (r := true) ya yb da db (by omega) (fun _ => hits_data I ?_ rb ra hp) (fin_bl I q (by simp [hl]))
  show X.A.units + 1 + 64 < cLine
  omega
theorem op_dictsNe (hu : X.A.units + 65 < cLine) : OpR X (compareOp .NotEq) (rDicts false X.K) := by
  intro pins s σ H x y v u Q I rx ry h
  obtain ⟨a, b, ks, ls, rfl, rfl, ea, eb, hlen, hp, q⟩ := h
  obtain rfl : v = Value.ref a := rx
  obtain rfl : u = Value.ref b := ry
  obtain ⟨ya, va, ra, da⟩ := dict_rd I ea
  obtain ⟨yb, vb, rb, db⟩ := dict_rd I eb
  have hl : va.length = vb.length := by rw [← ra.length, ← rb.length]; exact hlen
  refine PySem.W.keq_ne (knd := mixKind X.prog X.w) (r := true) ya yb da db (by omega) (fun _ => hits_data I ?_ rb ra hp) (fin_bl I q (by simp [hl]))
  show X.A.units + 1 + 64 < cLine
  omega
/-- the two values are the same data -/
def EqW (G : AH) (x y : W) : Prop := ∃ d e, DW G x d ∧ DW G y e ∧ SeqAt.shaped d = true ∧ SeqAt.shaped e = true ∧ PyData.eqv d e = true
theorem EqW.ok {G : AH} {x : W} (h : (okW x && Nat.ble (dpW x) 60) = true) : EqW G x x := by
  have o := (Bool.and_eq_true_iff.mp h).1
  refine ⟨_, _, DW.of x o, DW.of x o, shaped_ok h, shaped_ok h, ?_⟩
  rw [pd_eqv x x o o, eqW_self]
theorem EqW.ls {G : AH} {x y : W} {xs : List W} (hx : LsA G x xs) (hy : LsA G y xs) (h : (okWs xs && Nat.ble (dpWs xs) 60) = true) : EqW G x y := by
  have o := (Bool.and_eq_true_iff.mp h).1
  refine ⟨_, _, DWs.ofA hx o, DWs.ofA hy o, shaped_lst h, shaped_lst h, ?_⟩
  have := pd_eqv (.lst xs) (.lst xs) (by simpa [okW] using o) (by simpa [okW] using o)
  rw [eqW_self] at this
  exact this
def fDicts (b : Bool) : WR := fun x y G K => ∃ ks ls, DkA G x ks ∧ DkA G y ls ∧ ks.length = ls.length ∧ (∀ z ∈ ks, ∃ v, lk ls z.1 = some v ∧ EqW G z.2 v) ∧ K (.bl b) G
theorem kwv_mem {κ : Type} {H : Hp} {kws : List (κ × W)} {kvs : List (κ × V)} (r : KWV H kws kvs) : ∀ z ∈ kvs, ∃ w, (z.1, w) ∈ kws ∧ RV H w z.2 := by
  induction r with
  | nil => intro z hz; cases hz
  | @cons p q ps qs h t ih =>
    intro z hz
    rcases List.mem_cons.mp hz with rfl | hz
    · exact ⟨p.2, by rw [← h.1]; exact List.mem_cons_self, h.2⟩
    · obtain ⟨w, h1, h2⟩ := ih z hz
      exact ⟨w, List.mem_cons_of_mem _ h1, h2⟩
theorem rr_dicts {c : Ct} (b : Bool) : RR c (rDicts b c.K) (fDicts b) := by
  intro x y u v H G K Q rx ry g ⟨ks, ls, hx, hy, hl, h, k⟩ q
  obtain ⟨p, kvs, rfl, e1, r1⟩ := hx.rd g rx
  obtain ⟨p', lvs, rfl, e2, r2⟩ := hy.rd g ry
  refine ⟨p, p', kvs, lvs, rfl, rfl, e1, e2, by rw [← r1.len, ← r2.len]; exact hl, fun z hz => ?_, q _ _ (.stay (w := .bl b) rfl g k)⟩
  obtain ⟨w, hw, rw'⟩ := kwv_mem r1 z hz
  obtain ⟨w2, h1, d, e, hd, he, s1, s2, qv⟩ := h _ hw
  have := r2.val z.1
  rw [h1] at this
  obtain ⟨v2, h3, h4⟩ := this
  exact ⟨v2, h3, d, e, DW.low g d w z.2 hd rw', DW.low g e w2 v2 he h4, s1, s2, qv⟩
theorem q_eqDs (hu : X.A.units + 65 < cLine) (h : EQ X a ρ G fun x G1 => EQ X b ρ G1 fun y G2 => fDicts true x y G2 K) : EQ X (.Compare a [.Eq] [b] pos) ρ G K := q_cmp (op_dictsEq hu) (rr_dicts true) (nomark _) h
theorem q_neDs (hu : X.A.units + 65 < cLine) (h : EQ X a ρ G fun x G1 => EQ X b ρ G1 fun y G2 => fDicts false x y G2 K) : EQ X (.Compare a [.NotEq] [b] pos) ρ G K := q_cmp (op_dictsNe hu) (rr_dicts false) (nomark _) h
theorem b_eqDs (hu : X.A.units + 65 < cLine) (h : EQ X a ρ G fun x G1 => EQ X b ρ G1 fun y G2 => fDicts true x y G2 (tst KB)) : BQ X (.Compare a [.Eq] [b] pos) ρ G KB := b_cmp (op_dictsEq hu) (rr_dicts true) (nomark _) h
theorem b_neDs (hu : X.A.units + 65 < cLine) (h : EQ X a ρ G fun x G1 => EQ X b ρ G1 fun y G2 => fDicts false x y G2 (tst KB)) : BQ X (.Compare a [.NotEq] [b] pos) ρ G KB := b_cmp (op_dictsNe hu) (rr_dicts false) (nomark _) h
end
end AL
namespace AL
open PySem PySem.Spec L2
open PyProof.Rows hiding St
/-! ### lists made and at once told by value: the heap stays -/
section
variable {X : Cx} {a b e : Expr} {es : List Expr} {pos p2 : Pos} {ρ : AS} {G : AH} {K : W → AH → Prop}
theorem fAdd_ls {x y : W} {xs ys : List W} (hx : LsA G x xs) (hy : LsA G y ys) (hl : xs.length + ys.length ≤ sizeLine) (k : ∀ p, G p = none → K (.ref p) (aup G p (.lst (xs ++ ys)))) : fAdd x y G K := by
  cases x with
  | lst zs => cases y with
    | lst us => exact ⟨xs, ys, hx, hy, hl, k⟩
    | ref q => exact ⟨xs, ys, hx, hy, hl, k⟩
    | _ => exact hy.elim
  | ref p => cases y with
    | lst us => exact ⟨xs, ys, hx, hy, hl, k⟩
    | ref q => exact ⟨xs, ys, hx, hy, hl, k⟩
    | _ => exact hy.elim
  | _ => exact hx.elim
theorem q_addV (h : EQ X a ρ G fun x G1 => EQ X b ρ G1 fun y G2 => ∃ xs ys, LsA G2 x xs ∧ LsA G2 y ys ∧ xs.length + ys.length ≤ sizeLine ∧ K (.lst (xs ++ ys)) G2) : EQ X (.BinOp a .Add b pos) ρ G K :=
  q_v (q_add (h.mono fun x G1 h1 => h1.mono fun y G2 ⟨xs, ys, hx, hy, hl, k⟩ => fAdd_ls hx hy hl fun p hp => frz_new hp k))
theorem q_lstV (h : AQ X es ρ G fun ws G1 => K (.lst ws) G1) (hn : Nat.ble es.length 100000 = true := by rfl) : EQ X (.List es pos) ρ G K :=
  q_v (q_lst (AQ.of pa_A fun σ H rs rg => ⟨ρ, G, _, h, rs, rg, fun vs H' ⟨ws, G', k1, r, g, l, k⟩ => ⟨ws, G', k1, r, g, l, fun p hp => frz_new hp k⟩⟩) hn)
theorem fSl_ls {x : W} {xs : List W} {lo hi : Option Int} (hx : LsA G x xs) (k : ∀ p, G p = none → K (.ref p) (aup G p (.lst (cutW xs lo hi)))) : fSl x lo hi G K := by
  cases x with
  | lst zs => cases hx; exact k
  | ref p => exact ⟨xs, hx, k⟩
  | _ => exact hx.elim
theorem OQ.mono {e : Option Expr} {K K' : Option Int → AH → Prop} (h : OQ X e ρ G K) (i : ∀ w G, K w G → K' w G) : OQ X e ρ G K' :=
  OQ.of po_O fun σ H rs rg => ⟨ρ, G, K, h, rs, rg, fun o H' ⟨G', k1, g, k⟩ => ⟨G', k1, g, i _ _ k⟩⟩
theorem q_slV {lo hi : Option Expr} (h : EQ X a ρ G fun x G1 => OQ X lo ρ G1 fun l G2 => OQ X hi ρ G2 fun u G3 => ∃ xs, LsA G3 x xs ∧ K (.lst (cutW xs l u)) G3) : EQ X (.Subscript a (.Slice lo hi none p2) pos) ρ G K :=
  q_v (q_sl (h.mono fun x G1 h1 => h1.mono fun l G2 h2 => h2.mono fun u G3 ⟨xs, hx, k⟩ => fSl_ls hx fun p hp => frz_new hp k))
theorem q_negC {i : Int} {j : Nat} (k : K (.int (-i)) G) : EQ X (.UnaryOp .USub (.Constant (.int i) j p2) pos) ρ G K := q_neg (q_int k)
theorem o_int {i : Int} {j : Nat} {K : Option Int → AH → Prop} (k : K (some i) G) : OQ X (some (.Constant (.int i) j p2)) ρ G K := o_some (q_int k)
theorem o_negC {i : Int} {j : Nat} {K : Option Int → AH → Prop} {p3 : Pos} (k : K (some (-i)) G) : OQ X (some (.UnaryOp .USub (.Constant (.int i) j p2) p3)) ρ G K := o_some (q_negC k)
theorem cutW_last {xs : List W} : cutW xs none (some (-1)) = xs.dropLast := by
  unfold cutW
  have h : HT.sIx xs.length xs.length (some (-1)) = xs.length - 1 := by
    have := HT.clip_eq (-1) xs.length xs.length
    rw [if_pos (by decide)] at this
    omega
  rw [HT.sIx_none, h, List.drop_zero, Nat.sub_zero, List.dropLast_eq_take]
end
end AL
namespace AL
open PySem PySem.Spec L2
open PyProof.Rows hiding St
/-! ### dict(list of pairs) -/
def mgW (kws more : List (Key × W)) : List (Key × W) := more.foldl (fun acc kv => pk acc kv.1 kv.2) kws
theorem KWV.merge {H : Hp} {more : List (Key × W)} {rs : List (Key × V)} (r : KWV H more rs) : ∀ {kws : List (Key × W)} {kvs : List (Key × V)}, KWV H kws kvs → KWV H (mgW kws more) (mergeK kvs rs) := by
  induction r with
  | nil => intro _ _ h; exact h
  | @cons p q ps qs h t ih =>
    intro kws kvs h2
    show KWV H (mgW (pk kws p.1 p.2) ps) (mergeK (putK kvs q.1 q.2) qs)
    refine ih ?_
    rw [← h.1]
    exact h2.put p.1 h.2
theorem prs_low {H : Hp} : ∀ {kws : List (Key × W)} {vs : List V}, RVs H (kws.map fun kv => .tup [wK kv.1, kv.2]) vs → ∃ (ps : List Addr) (kvs : List (Key × V)), vs = ps.map V.ref ∧ Paired (fun p (kv : Key × V) => H p = some (.tup [kV kv.1, kv.2])) ps kvs ∧ KWV H kws kvs
  | [], _, h => by cases h; exact ⟨[], [], rfl, .nil, .nil⟩
  | kw :: kws, _, h => by
    obtain ⟨v, r, rfl, ⟨a, us, rfl, ht, ru⟩, hr⟩ := h
    obtain ⟨ps, kvs, rfl, hp, hk⟩ := prs_low hr
    obtain ⟨v1, r1, rfl, h1, v2, r2, rfl, h2, h3⟩ := ru
    cases h3
    have e1 : v1 = kV kw.1 := rv_key (keyW_wK kw.1) h1
    subst e1
    exact ⟨a :: ps, (kw.1, v2) :: kvs, rfl, .cons ht hp, .cons ⟨rfl, h2⟩ hk⟩
section
variable {X : Cx} {e : Expr} {es : List Expr} {p pos : Pos} {ρ : AS} {G : AH} {K : W → AH → Prop}
theorem paired_imp {α β : Type} {R S : α → β → Prop} (f : ∀ a b, R a b → S a b) {as : List α} {bs : List β} (h : Paired R as bs) : Paired S as bs := by
  induction h with
  | nil => exact .nil
  | cons h _ ih => exact .cons (f _ _ h) ih
theorem q_dictP (hm : X.mg "dict" = none) (h : AQ X (e :: es) ρ G fun ws G1 => ∃ w kws, ws = [w] ∧ LsA G1 w (kws.map fun kv => .tup [wK kv.1, kv.2]) ∧ ∀ p, G1 p = none → K (.ref p) (aup G1 p (.dK (mgW [] kws)))) (hc : X.calm = true := by rfl) (hg : Gl X "dict" := by rfl)
    (he : starEach (e :: es) X.env = (false, eval e X.env) :: starEach es X.env := by rfl) (hpl : (backTo pos (starEach es X.env)).any (·.1) = false := by rfl) : EQ X (.Call (.Name "dict" p) (e :: es) [] pos) ρ G K :=
  q_callT (R := fun ws G1 K => ∃ w kws, ws = [w] ∧ LsA G1 w (kws.map fun kv => .tup [wK kv.1, kv.2]) ∧ ∀ p, G1 p = none → K (.ref p) (aup G1 p (.dK (mgW [] kws)))) (call_dictP hc) (fun ws vs H G K Q r g ⟨w, kws, e, hd, k⟩ q => by
    subst e
    obtain ⟨v, rfl, hv⟩ := rv1 r
    obtain ⟨a, us, rfl, hs, ru⟩ := hd.sq g hv
    obtain ⟨ps, kvs, rfl, hp, hk⟩ := prs_low ru
    exact ⟨a, ps, kvs, rfl, hs, paired_imp (fun _ _ h => .inl (.inl h)) hp, fun p hp => q _ _ ⟨.ref p, _, Keep.new hp, rfl, g.new hp (show RO _ _ p (.dK (mgW [] kws)) from ⟨mergeK [] kvs, upd_same, (hk.merge .nil).mono (Keep.new hp)⟩), k p (g.free hp)⟩⟩) hm (by decide +kernel) h hg (by decide) (by decide) he hpl
theorem nodupK_len {α : Type} : ∀ {a b : List α}, a.Nodup → (∀ x ∈ a, x ∈ b) → a.length ≤ b.length := by
  classical
  intro a
  induction a with
  | nil => intro b _ _; exact Nat.zero_le _
  | cons x a ih =>
    intro b nd h
    have nd := List.nodup_cons.mp nd
    have hx := h x List.mem_cons_self
    have := ih (b := b.erase x) nd.2 fun y hy => (List.mem_erase_of_ne (fun e => nd.1 (by rw [← e]; exact hy))).mpr (h y (List.mem_cons_of_mem _ hy))
    rw [List.length_erase_of_mem hx] at this
    have := List.length_pos_of_mem hx
    rw [List.length_cons]; omega
theorem lk_of_mem {κ : Type} [DecidableEq κ] : ∀ {r : List (κ × W)}, (r.map (·.1)).Nodup → ∀ {q : κ × W}, q ∈ r → lk r q.1 = some q.2
  | [], _, _, h => by cases h
  | p :: r, nd, q, h => by
    rw [List.map_cons, List.nodup_cons] at nd
    rw [lk_cons]
    rcases List.mem_cons.mp h with rfl | h
    · rw [if_pos rfl]
    · rw [if_neg (fun e => nd.1 (by rw [e]; exact List.mem_map_of_mem h))]
      exact lk_of_mem nd.2 h
theorem mem_of_lk {κ : Type} [DecidableEq κ] : ∀ {r : List (κ × W)} {k : κ} {v : W}, lk r k = some v → k ∈ r.map (·.1)
  | [], _, _, h => by cases h
  | p :: r, k, v, h => by
    rw [lk_cons] at h
    by_cases c : p.1 = k
    · rw [List.map_cons, c]; exact List.mem_cons_self
    · rw [if_neg c] at h
      rw [List.map_cons]; exact List.mem_cons_of_mem _ (mem_of_lk h)
theorem lk_isSome_of {κ : Type} [DecidableEq κ] {r : List (κ × W)} {k : κ} (h : k ∈ r.map (·.1)) : ∃ v, lk r k = some v := by
  induction r with
  | nil => cases h
  | cons p r ih =>
    rw [lk_cons]
    by_cases c : p.1 = k
    · exact ⟨p.2, if_pos c⟩
    · rw [if_neg c]
      rw [List.map_cons] at h
      rcases List.mem_cons.mp h with e | h
      · exact absurd e.symm c
      · exact ih h
/-- dicts that tell the same -/
theorem DI.alike {N : Nat} {k1 k2 : List (Key × W)} {b : Nat → Option W} (d1 : DI N k1 b) (d2 : DI N k2 b) : k1.length = k2.length ∧ ∀ z ∈ k1, lk k2 z.1 = some z.2 := by
  have sub : ∀ {k1 k2 : List (Key × W)}, DI N k1 b → DI N k2 b → ∀ x ∈ k1.map (·.1), x ∈ k2.map (·.1) := fun d1 d2 x hx => by
    obtain ⟨p, hp, rfl⟩ := List.mem_map.mp hx
    obtain ⟨j, _, e⟩ := d1.dom p hp
    have h1 := lk_of_mem d1.nd hp
    rw [e, d1.get, ← d2.get] at h1
    rw [e]
    exact mem_of_lk h1
  refine ⟨?_, fun z hz => ?_⟩
  · have h1 := nodupK_len d1.nd (sub d1 d2)
    have h2 := nodupK_len d2.nd (sub d2 d1)
    rw [List.length_map, List.length_map] at h1 h2
    omega
  · obtain ⟨j, _, e⟩ := d1.dom z hz
    have h1 := lk_of_mem d1.nd hz
    rw [e, d1.get, ← d2.get] at h1
    rw [e]
    exact h1
end
end AL
namespace AL
open PySem PySem.Spec L2
open PyProof.Rows hiding St
/-! ### how long a value's repr is at most -/
mutual
def smW : W → Bool
  | .non => true
  | .bl _ => true
  | .int i => decide (i.natAbs < 10 ^ 18)
  | .str _ => true
  | .ref _ => false
  | .ty _ => false
  | .tup ws => smWs ws
  | .lst ws => smWs ws
def smWs : List W → Bool
  | [] => true
  | w :: ws => smW w && smWs ws
end
mutual
def wgW : W → Nat
  | .non => 0
  | .bl _ => 0
  | .int _ => 64
  | .str x => x.length
  | .ref _ => 0
  | .ty _ => 0
  | .tup ws => wgWs ws
  | .lst ws => wgWs ws
def wgWs : List W → Nat
  | [] => 0
  | w :: ws => wgW w + 1 + wgWs ws
end
theorem log_60 {i : Int} (h : i.natAbs < 10 ^ 18) : i.natAbs = 0 ∨ i.natAbs.log2 < 60 := by
  by_cases c : i.natAbs = 0
  · exact .inl c
  · exact .inr ((Nat.log2_lt c).mpr (by omega))
mutual
theorem rp_ints : ∀ w : W, okW w = true → smW w = true → (pdW w).intsShort 20 = true ∧ (pdW w).showable = true ∧ (pdW w).hasDict = false ∧ (pdW w).weight ≤ wgW w
  | .non, _, _ => ⟨rfl, rfl, rfl, Nat.le_refl _⟩
  | .bl b, _, _ => ⟨rfl, rfl, rfl, Nat.le_refl _⟩
  | .int i, _, h => by
    have h : i.natAbs < 10 ^ 18 := by simpa [smW] using h
    refine ⟨?_, ?_, rfl, ?_⟩
    · show decide ((PyData.shown (.int i)).length ≤ 20) = true
      refine decide_eq_true ?_
      have e := int_text_length_le10 (k := 18) (by decide) h
      show (Str.ofString (toString i)).length ≤ 20
      rw [PySem.ofString_length]; omega
    · show decide (i.natAbs.log2 < 1920) = true
      refine decide_eq_true ?_
      rcases log_60 h with c | c
      · rw [c]; decide
      · omega
    · show (if (i == 0) = true then 0 else i.natAbs.log2 + 1) ≤ 64
      split
      · exact Nat.zero_le _
      · rcases log_60 h with c | c
        · rw [c]; decide
        · omega
  | .str x, _, _ => ⟨rfl, rfl, rfl, Nat.le_refl _⟩
  | .ref _, h, _ => by cases h
  | .ty _, h, _ => by cases h
  | .tup ws, h, h2 => rps_ints ws (by simpa [okW] using h) (by simpa [smW] using h2)
  | .lst ws, h, h2 => rps_ints ws (by simpa [okW] using h) (by simpa [smW] using h2)
theorem rps_ints : ∀ ws : List W, okWs ws = true → smWs ws = true → PyData.intsShortAll 20 (pdWs ws) = true ∧ PyData.showableAll (pdWs ws) = true ∧ PyData.hasDictAll (pdWs ws) = false ∧ PyData.weightAll (pdWs ws) ≤ wgWs ws
  | [], _, _ => ⟨rfl, rfl, rfl, Nat.le_refl _⟩
  | w :: ws, h, h2 => by
    have h : okW w = true ∧ okWs ws = true := Bool.and_eq_true_iff.mp h
    have h2 : smW w = true ∧ smWs ws = true := Bool.and_eq_true_iff.mp h2
    obtain ⟨a1, a2, a3, a4⟩ := rp_ints w h.1 h2.1
    obtain ⟨b1, b2, b3, b4⟩ := rps_ints ws h.2 h2.2
    refine ⟨?_, ?_, ?_, ?_⟩
    · show (PyData.intsShort 20 (pdW w) && PyData.intsShortAll 20 (pdWs ws)) = true
      rw [a1, b1]; rfl
    · show (PyData.showable (pdW w) && PyData.showableAll (pdWs ws)) = true
      rw [a2, b2]; rfl
    · show (PyData.hasDict (pdW w) || PyData.hasDictAll (pdWs ws)) = false
      rw [a3, b3]; rfl
    · show PyData.weight (pdW w) + 1 + PyData.weightAll (pdWs ws) ≤ wgW w + 1 + wgWs ws
      omega
end
theorem RpOk.of {w : W} (h1 : okW w = true) (h2 : smW w = true) (h3 : dpW w ≤ 60) (h4 : wgW w ≤ 700000) : RpOk w := by
  obtain ⟨a1, a2, a3, a4⟩ := rp_ints w h1 h2
  refine ⟨h1, a2, a3, by rw [pd_depth]; exact h3, ?_⟩
  have := PyData.shown_le 20 (by decide) (pdW w) (PyData.leavesShort_of_canLay0 20 _ (pd_lay w h1) a1)
  have sz : sizeLine = 16777216 := rfl
  omega
theorem wgWs_le {B : Nat} : ∀ {ws : List W}, (∀ w ∈ ws, wgW w ≤ B) → wgWs ws ≤ ws.length * (B + 1)
  | [], _ => Nat.zero_le _
  | w :: ws, h => by
    have h1 := h w List.mem_cons_self
    have h2 := wgWs_le (ws := ws) fun w hw => h w (List.mem_cons_of_mem _ hw)
    show wgW w + 1 + wgWs ws ≤ (ws.length + 1) * (B + 1)
    rw [Nat.succ_mul]; omega
theorem smWs_of : ∀ {ws : List W}, (∀ w ∈ ws, smW w = true) → smWs ws = true
  | [], _ => rfl
  | w :: ws, h => by
    show (smW w && smWs ws) = true
    rw [h w List.mem_cons_self, smWs_of fun w hw => h w (List.mem_cons_of_mem _ hw)]; rfl
theorem okWs_of : ∀ {ws : List W}, (∀ w ∈ ws, okW w = true) → okWs ws = true
  | [], _ => rfl
  | w :: ws, h => by
    show (okW w && okWs ws) = true
    rw [h w List.mem_cons_self, okWs_of fun w hw => h w (List.mem_cons_of_mem _ hw)]; rfl
theorem dpWs_of {d : Nat} : ∀ {ws : List W}, (∀ w ∈ ws, dpW w ≤ d) → dpWs ws ≤ d
  | [], _ => Nat.zero_le _
  | w :: ws, h => by
    show max (dpW w) (dpWs ws) ≤ d
    have := h w List.mem_cons_self
    have := dpWs_of (ws := ws) fun w hw => h w (List.mem_cons_of_mem _ hw)
    omega
end AL
namespace AL
open PySem PySem.Spec L2
open PyProof.Rows hiding St
/-! ### instances of classes of the text -/
def pfW (f : Str) (w : W) : List (Str × W) → List (Str × W)
  | [] => [(f, w)]
  | (g, x) :: r => if g = f then (g, w) :: r else (g, x) :: pfW f w r
theorem KWV.putF {H : Hp} {fs : List (Str × W)} {gs : List (Str × V)} (r : KWV H fs gs) {f : Str} {w : W} {v : V} (h : RV H w v) : KWV H (pfW f w fs) (L2.putF f v gs) := by
  induction r with
  | nil => exact .cons ⟨rfl, h⟩ .nil
  | @cons p q ps qs h1 t ih =>
    obtain ⟨k, x⟩ := p
    obtain ⟨k', y⟩ := q
    obtain ⟨e, rx⟩ := h1
    cases (show k = k' from e)
    show KWV H (if k = f then (k, w) :: ps else (k, x) :: pfW f w ps) (if k = f then (k, v) :: qs else (k, y) :: L2.putF f v qs)
    by_cases c : k = f
    · rw [if_pos c, if_pos c]; exact .cons ⟨rfl, h⟩ t
    · rw [if_neg c, if_neg c]; exact .cons ⟨rfl, rx⟩ ih
theorem KWV.fld {H : Hp} {fs : List (Str × W)} {gs : List (Str × V)} (r : KWV H fs gs) (f : Str) : match fs.lookup f with
    | some w => ∃ v, gs.lookup f = some v ∧ RV H w v
    | none => gs.lookup f = none := by
  induction r with
  | nil => rfl
  | @cons p q ps qs h1 t ih =>
    obtain ⟨k, x⟩ := p
    obtain ⟨k', y⟩ := q
    obtain ⟨e, rx⟩ := h1
    cases (show k = k' from e)
    cases c : (f == k) with
    | true => simp only [List.lookup, c]; exact ⟨y, rfl, rx⟩
    | false => simp only [List.lookup, c]; exact ih
theorem lkf_eq {f : Str} {w : W} {r : List (Str × W)} : ((f, w) :: r).lookup f = some w := by
  have : (f == f) = true := beq_self_eq_true f
  simp only [List.lookup, this]
theorem lkf_ne {f g : Str} {w : W} {r : List (Str × W)} (h : ¬ g = f) : ((f, w) :: r).lookup g = r.lookup g := by
  have : (g == f) = false := beq_eq_false_iff_ne.mpr h
  simp only [List.lookup, this]
section
variable {X : Cx} {e o value : Expr} {es : List Expr} {p pos apos pos' : Pos} {ρ : AS} {G : AH} {K : W → AH → Prop} {A : AEnds} {f m x : Str} {C g : Addr} {fd : FuncData} {ps : List Str} {k : Nat} {sp : ASp}
theorem q_fld (h : EQ X e ρ G fun x G1 => ∃ a C dx fs w, x = .ref a ∧ G1 a = some (.ins C dx fs) ∧ Cls X.K C ∧ NoAttr X.K C f ∧ fs.lookup f = some w ∧ K w G1) (hb : attributeBase e f X.env (eval e X.env) = eval e X.env := by rfl) : EQ X (.Attribute e f pos) ρ G K :=
  EQ.of (pe_fld pe_E hb) fun σ H rs rg => ⟨ρ, G, _, h, rs, rg, fun u H1 ⟨w0, G1, k1, rx, rg1, a, C, dx, fs, w, e1, e2, c, n, l, q⟩ => by
    subst e1
    obtain ⟨gs, h1, h2⟩ := rg1 _ _ e2
    have := h2.fld f
    rw [l] at this
    obtain ⟨v, h3, h4⟩ := this
    exact ⟨a, C, dx, gs, v, rx, h1, c, n, h3, w, G1, k1, h4, rg1, q⟩⟩
theorem s_fld (h : EQ X value ρ G fun y G1 => EQ X o ρ G1 fun x G2 => ∃ a C dx fs, x = .ref a ∧ G2 a = some (.ins C dx fs) ∧ Cls X.K C ∧ NoAttr X.K C f ∧ fs.length < 1000 ∧ A.nx ρ (aup G2 a (.ins C dx (pfW f y fs)))) (hs : swapsWith value (some (.Attribute o f pos')) pos.line X.env = pure false := by rfl) : S1 X (.Assign [.Attribute o f pos'] value pos) ρ G A :=
  S1.of (ps_fld pe_E pe_E hs) fun σ H rs rg => ⟨ρ, G, _, h, rs, rg, fun u H1 ⟨y, G1, k1, ry, rg1, q1⟩ => ⟨ρ, G1, _, q1, rs.mono k1, rg1, fun v H2 ⟨x, G2, k2, rx, rg2, a, C, dx, fs, e1, e2, c, n, l, q⟩ => by
    subst e1
    obtain ⟨gs, h1, h2⟩ := rg2 _ _ e2
    have kp : Keep H2 (upd H2 a (.ins C dx (L2.putF f u gs))) := Keep.mut h1 True.intro
    refine ⟨a, C, dx, gs, rx, h1, c, n, by rw [← h2.len]; exact l, ρ, _, (k1.trans k2).trans kp, (rs.mono (k1.trans k2)).mono kp, rg2.put kp (show RO (cc X) _ a (.ins C dx (pfW f y fs)) from ⟨_, upd_same, (h2.mono kp).putF ((ry.mono k2).mono kp)⟩), q⟩⟩⟩
/-- a method of a class of the text that keeps its promise -/
structure Mtd (P : Program) (w : World) (K : PySem.W.Frag) (mg : Str → Option Value) (base : Heap) (C : Addr) (m : Str) (k : Nat) (ps : List Str) (sp : ASp) : Prop where
  cls : Cls K C
  ex : ∃ f fd, Meth K C m f ∧ FnOk P w K mg base CX0 k f fd ps (low ⟨P, w, K⟩ sp) ∧ Binds K fd ps []
theorem q_meth {pl : Sem Bool} (M : Mtd X.prog X.w X.K X.mg X.base C m k ps sp) (hr : Room k X.A)
    (h : EQ X o ρ G fun x G1 => ∃ a dx fs, x = .ref a ∧ G1 a = some (.ins C dx fs) ∧ fs.lookup m = none ∧ AQ X (e :: es) ρ G1 fun ws G2 => sp (x :: ws) G2 K noE)
    (hst : starEach (e :: es) X.env = (false, eval e X.env) :: starEach es X.env := by rfl) (hpl : (backTo pos (starEach es X.env)).any (·.1) = false := by rfl)
    (ht : eval (.Call (.Attribute o m apos) (e :: es) [] pos) X.env = (do
      let ov ← eval o X.env
      standAt apos.atName
      let (f, first) ← holding [ov] (getMethod ov m pl)
      callWith pos f first (backTo pos (starEach (e :: es) X.env)) (backToKw pos (keywordEach [] X.env))) := by rfl) : EQ X (.Call (.Attribute o m apos) (e :: es) [] pos) ρ G K := by
  obtain ⟨f, fd, hm, F, hb⟩ := M.ex
  exact EQ.of (pe_meth pe_E M.cls hm F hr hb .nil pass0 pa_A hst hpl ht) fun σ H rs rg => ⟨ρ, G, _, h, rs, rg, fun u H1 ⟨x, G1, k1, rx, rg1, a, dx, fs, e1, e2, l, q1⟩ => by
    subst e1
    obtain ⟨gs, h1, h2⟩ := rg1 _ _ e2
    have hl := h2.fld m
    rw [l] at hl
    cases (show u = .ref a from rx)
    refine ⟨a, dx, gs, rfl, h1, hl, ρ, G1, _, q1, rs.mono k1, rg1, fun vs H2 ⟨ws, G2, k2, r2, rg2, _, q⟩ => ?_⟩
    show low (cc X) sp (.ref a :: (vs ++ [])) H2 (CW (cc X) H K) E0
    rw [List.append_nil]
    exact ⟨.ref a :: ws, G2, K, noE, .cons rfl r2, rg2, q, fun v H' z => z.pre (k1.trans k2), fun _ _ _ ⟨_, _, _, z⟩ => z.elim⟩⟩
theorem q_meth0 {pl : Sem Bool} (M : Mtd X.prog X.w X.K X.mg X.base C m k ps sp) (hr : Room k X.A)
    (h : EQ X o ρ G fun x G1 => ∃ a dx fs, x = .ref a ∧ G1 a = some (.ins C dx fs) ∧ fs.lookup m = none ∧ sp [x] G1 K noE)
    (ht : eval (.Call (.Attribute o m apos) [] [] pos) X.env = (do
      let ov ← eval o X.env
      standAt apos.atName
      let (f, first) ← holding [ov] (getMethod ov m pl)
      callWith pos f first (backTo pos (starEach [] X.env)) (backToKw pos (keywordEach [] X.env))) := by rfl) : EQ X (.Call (.Attribute o m apos) [] [] pos) ρ G K := by
  obtain ⟨f, fd, hm, F, hb⟩ := M.ex
  exact EQ.of (pe_meth0 pe_E M.cls hm F hr hb .nil pass0 ht) fun σ H rs rg => ⟨ρ, G, _, h, rs, rg, fun u H1 ⟨x, G1, k1, rx, rg1, a, dx, fs, e1, e2, l, q⟩ => by
    subst e1
    obtain ⟨gs, h1, h2⟩ := rg1 _ _ e2
    have hl := h2.fld m
    rw [l] at hl
    cases (show u = .ref a from rx)
    exact ⟨a, dx, gs, rfl, h1, hl, [.ref a], G1, K, noE, .cons rfl .nil, rg1, q, fun v H' z => z.pre k1, fun _ _ _ ⟨_, _, _, z⟩ => z.elim⟩⟩
/-- a class of the text that can be made by its __init__ -/
structure Mkr (P : Program) (w : World) (K : PySem.W.Frag) (mg : Str → Option Value) (base : Heap) (x : Str) (C : Addr) (k : Nat) (ps : List Str) (sp : ASp) : Prop where
  ex : ∃ f fd, Mk K C f ∧ FnOk P w K mg base CX0 k f fd ps (low ⟨P, w, K⟩ sp) ∧ mg x = some (.ref C) ∧ Binds K fd ps []
theorem make_low {c : Ct} {H H1 : Hp} {G1 : AH} {C x dx : Addr} {ws : List W} {vs : List V} {K : W → AH → Prop} {sp : ASp} (k1 : Keep H H1) (r : RVs H1 ws vs) (g : RG c H1 G1) (hx : H1 x = none) (hd : H1 dx = none) (hne : dx ≠ x) (q : sp (.ref x :: ws) (aup G1 x (.ins C dx [])) (fun v G2 => v = .non ∧ K (.ref x) G2) noE) :
    low c sp (.ref x :: vs) (upd (upd H1 dx (.own x)) x (.ins C dx [])) (fun v H2 => v = .non ∧ CW c H K (.ref x) H2) fun _ _ _ => False := by
  have k2 : Keep H1 (upd H1 dx (.own x)) := Keep.new hd
  have hx2 : upd H1 dx (.own x) x = none := by rw [upd_ne hne.symm]; exact hx
  have k3 : Keep (upd H1 dx (.own x)) (upd (upd H1 dx (.own x)) x (.ins C dx [])) := Keep.new hx2
  have k4 := k2.trans k3
  refine ⟨.ref x :: ws, _, _, noE, .cons rfl (r.mono k4), (g.tup hd).new hx2 (show RO c _ x (.ins C dx []) from ⟨[], upd_same, .nil⟩), q, fun v H' ⟨w, G', k5, rw', rg', e, kk⟩ => ?_, fun _ _ _ ⟨_, _, _, z⟩ => z.elim⟩
  subst e
  exact ⟨rw', .ref x, G', (k1.trans k4).trans k5, rfl, rg', kk⟩
theorem q_make (M : Mkr X.prog X.w X.K X.mg X.base x C k ps sp) (hr : Room (k + 1) X.A)
    (h : AQ X (e :: es) ρ G fun ws G1 => ∀ a dx, G1 a = none → sp (.ref a :: ws) (aup G1 a (.ins C dx [])) (fun v G2 => v = .non ∧ K (.ref a) G2) noE)
    (hg : Gl X x := by rfl) (hdb : (x == ("__debug__" : Str)) = false := by decide) (he : starEach (e :: es) X.env = (false, eval e X.env) :: starEach es X.env := by rfl) (hpl : (backTo pos (starEach es X.env)).any (·.1) = false := by rfl) : EQ X (.Call (.Name x p) (e :: es) [] pos) ρ G K := by
  obtain ⟨f, fd, hM, F, hm, hb⟩ := M.ex
  exact EQ.of (pe_make hM F hr hg hm hb .nil pass0 pa_A hdb he hpl) fun σ H rs rg => ⟨ρ, G, _, h, rs, rg, fun vs H1 ⟨ws, G1, k1, r1, rg1, _, q⟩ a dx ha hd hne => by
    rw [List.append_nil]
    exact make_low k1 r1 rg1 ha hd hne (q a dx (rg1.free ha))⟩
/-- C.m(..), the def m of the class C called by hand -/
theorem q_cfn {pl : Sem Bool} {f : Addr} {mc : Value} (hm : X.mg x = some (.ref C)) (cr : ClX.CRead X.K C mc) (ca : PySem.W.findCls X.K (.ref C) mc m = some (.val (.ref f))) (kp : PySem.W.keepIn X.K (.ref f) = true) (F : FnOk X.prog X.w X.K X.mg X.base CX0 k f fd ps (low (cc X) sp)) (hr : Room k X.A) (hb : Binds X.K fd ps [])
    (h : AQ X (e :: es) ρ G fun ws G1 => sp ws G1 K noE) (hg : Gl X x := by rfl) (hdb : (x == ("__debug__" : Str)) = false := by decide)
    (hst : starEach (e :: es) X.env = (false, eval e X.env) :: starEach es X.env := by rfl) (hpl : (backTo pos (starEach es X.env)).any (·.1) = false := by rfl)
    (ht : eval (.Call (.Attribute (.Name x p) m apos) (e :: es) [] pos) X.env = (do
      let ov ← eval (.Name x p) X.env
      standAt apos.atName
      let (f, first) ← holding [ov] (getMethod ov m pl)
      callWith pos f first (backTo pos (starEach (e :: es) X.env)) (backToKw pos (keywordEach [] X.env))) := by rfl) : EQ X (.Call (.Attribute (.Name x p) m apos) (e :: es) [] pos) ρ G K := ⟨fun pins s σ H I rs rg => by
  refine PySem.W.methodCall_KW (pl := pl) (thn ((q_gref (K := fun w G' => w = .ref C ∧ G' = G) (pos := p) (ρ := ρ) (G := G) hm ⟨rfl, rfl⟩ hg hdb).run pins s σ H I rs rg) fun u s1 ⟨v, H1, I1, r1, w, G1, k1, rw1, rg1, e1, e2⟩ => ?_) ht
  subst e1 e2
  cases (show v = .ref C from rw1)
  cases (show u = Value.ref C from r1)
  refine PySem.W.method_cls I1.kIn cr.ga (PySem.W.cls_value I1.kIn cr.rd ca rfl ?_)
  refine PySem.W.callWith_K (first := []) (h₀ := X.base) I1.ok.mod.kin kp (thn (h.run pos pins _ σ H1 (I1.tok _) (rs.mono k1) rg1) fun us s2 ⟨vs, H2, I2, r, ws, G2, k2, r2, rg2, _, q⟩ => ⟨I2.kIn, ?_⟩) hst hpl
  refine run_fn F hr hb .nil (E := E0) pass0 I2 r ?_
  rw [List.append_nil]
  exact ⟨ws, G2, K, noE, r2, rg2, q, fun v H' z => z.pre (k1.trans k2), fun _ _ _ ⟨_, _, _, z⟩ => z.elim⟩⟩
end
end AL
namespace AL
open PySem PySem.Spec L2
open PyProof.Rows hiding St
/-! ### an error that was caught and is kept by a name -/
/-- an exception object of the class cls at a -/
def EcO (cls : Value) (d : Option Addr) (a : Addr) : HO := .ext fun h => ∃ (oe : Obj) (vs : Array Value), h.get? a = some oe ∧ Zc cls d oe ∧ oe.data = .fields vs
theorem ecO_ok {P : Program} {w : World} {H : Hp} {h : Heap} {a : Addr} {cls : Value} {d : Option Addr} {oe : Obj} {vs : Array Value} (e : h.get? a = some oe) (z : Zc cls d oe) (k : oe.data = .fields vs) : ObjOk P w H h a (EcO cls d a) :=
  ⟨⟨oe, vs, e, z, k⟩, ⟨oe, e⟩, fun _ _ ⟨oe1, vs1, e1, z1, k1⟩ st => ⟨oe1, vs1, st oe1 e1, z1, k1⟩⟩
section
variable {X : Cx} {pins : List (Addr × Obj)} {σ : L2.St} {H : Hp} {s : Shared} {a : Addr} {oe : Obj} {vs : Array Value} {cls : Value} {d : Option Addr}
/-- an object of ours that nothing told of is told of from now on -/
theorem track (I : Inv X pins σ H s) (na : H a = none) (e : s.heap.get? a = some oe) (z : Zc cls d oe) (k : oe.data = .fields vs) (n0 : X.s_0.heap.get? a = none) (nL : a ≠ X.env.locals) (np : ∀ q ∈ X.pn ++ pins, q.1 ≠ a) : Inv X pins σ (upd H a (EcO cls d a)) s := by
  have U := I.base
  have ne0 : ∀ b ob, X.s_0.heap.get? b = some ob → b ≠ a := fun b ob h t => by rw [t, n0] at h; cases h
  refine ⟨I.ok, I.os, I.bare, ⟨U.keep, U.slot, fun b ob h h1 h2 => ?_, U.there, fun b ys h => ?_, fun b ob ys h => ?_, fun b ps h => ?_⟩, I.loc, I.cell, ?_, fun y c h => ?_, fun q hq => ?_, fun b u h => ?_, I.len⟩
  · rw [upd_ne (ne0 b ob h)]; exact U.free b ob h h1 h2
  · have t := U.tups b ys h
    rw [upd_ne (fun z => by rw [z, na] at t; cases t)]; exact t
  · have t := U.frzs b ob ys h
    rw [upd_ne (fun z => by rw [z, na] at t; cases t)]; exact t
  · obtain ⟨m, t⟩ := U.tbls b ps h
    exact ⟨m, by rw [upd_ne (fun z => by rw [z, na] at t; cases t)]; exact t⟩
  · rw [upd_ne nL.symm]; exact I.free
  · have hne : c ≠ a := fun t => by
      obtain ⟨v, o1, g1, g2⟩ := I.cell y c h
      rw [t, e] at g1
      cases g1
      rw [k] at g2; cases g2
    rw [upd_ne hne]; exact I.freeC y c h
  · obtain ⟨g1, g2, g3⟩ := I.pin q hq
    exact ⟨g1, by rw [upd_ne (np q hq)]; exact g2, g3⟩
  · by_cases t : b = a
    · subst t
      rw [upd_same] at h
      cases h
      exact ecO_ok e z k
    · rw [upd_ne t] at h
      exact (I.hok b u h).stay (fun c v _ q => q) (fun c q => by rw [upd_ne (fun z => by rw [z, na] at q; cases q)]; exact q) fun c ys q => by rw [upd_ne (fun z => by rw [z, na] at q; cases q)]; exact q
end
/-- what is wished of an error that is caught, and kept by the name in slot j (n's slot is i) -/
def wKp (K : PySem.W.Frag) (c : Value) (i j : Nat) (D : Ends) : WX := fun cls d σ H => PySem.W.exmOne K cls c = some true ∧ ∀ a, H a = none → D.nx (((σ.set i (some (.ref a))).set j (some (.ref a))).set i none) (upd H a (EcO cls d a))
section
variable {X : Cx} {x n y : Str} {c : Value} {i j : Nat} {body : List Stmt} {np p1 p2 p3 pos pos' : Pos} {tb : WX → TS}
theorem kept_suite (hN : X.N.Nodup) (hi : X.N[i]? = some n) (hln : X.env.kindOf n = some .local) (hj : X.N[j]? = some y) (hly : X.env.kindOf y = some .local) (hsw : swapsWith (.Name n p2) (some (.Name y p1)) p3.line X.env = pure false) (hd1 : (n == ("__debug__" : Str)) = false) (hd2 : (n == ("__classdict__" : Str)) = false) (a : Addr) (oe : Obj) (pn : List (Addr × Obj)) :
    PSs (X.suite a ((a, oe) :: pn)) [.Assign [.Name y p1] (.Name n p2) p3] (tSeq (tAsg (tVar i) (gName j)) tNext) :=
  pss_cons (ps_set (X := X.suite a ((a, oe) :: pn)) hN hj (.inl hly) (pe_var (X := X.suite a ((a, oe) :: pn)) hi (.inl hln) hd1 hd2) hsw (.inr hly)) pss_nil
theorem ps_tryKeep (hst : X.stack = X.env :: X.outer) (hfr : X.env.frame = some X.env.locals) (hex : X.ex = []) (hN : X.N.Nodup) (hi : X.N[i]? = some n) (hln : X.env.kindOf n = some .local) (hj : X.N[j]? = some y) (hly : X.env.kindOf y = some .local) (hc : Names X x c)
    (hsw : swapsWith (.Name n p2) (some (.Name y p1)) p3.line X.env = pure false) (hd1 : (n == ("__debug__" : Str)) = false) (hd2 : (n == ("__classdict__" : Str)) = false)
    (hb : ∀ (W : WX) (pn : List (Addr × Obj)) (xe : Value → Shared → Prop), Takes (X.tr pn xe) W → PassesOwn (model X.prog X.w) X.A X.env xe → PSs (X.tr pn xe) body (tb W)) :
    PS X (.Try body [.ExceptHandler (some (.Name x np)) (some n) [.Assign [.Name y p1] (.Name n p2) p3] pos'] [] [] pos) (fun D σ H => tb (wKp X.K c i j D) D σ H) := by
  refine ⟨fun pins s σ H D I0 h => ?_⟩
  have okX := I0.ok
  have frX : X.A.frames = some (X.env :: X.outer) := by rw [okX.frames, hst]
  refine wpAny_Try_except (wpAny_mono ((hb (wKp X.K c i j D) (X.pn ++ pins) (fun e t1 => wpAny (model X.prog X.w) X.A (noteFrame e X.env) (fun _ t2 => wpAny (model X.prog X.w) X.A (setFlight e none) (fun _ t3 => wpAny (model X.prog X.w) X.A (handleBy e X.env [.ExceptHandler (some (.Name x np)) (some n) [.Assign [.Name y p1] (.Name n p2) p3] pos']) (SP X pins D) X.xe t3) X.xe t2) X.xe t1) (fun u t xx => ?_) PassesOwn.looking).run [] s σ H D (I0.toTry _) h) (fun f t hsp => ?_) (fun _ _ he => he))
  · obtain ⟨a, B, sI, pinsI, σI, HI, cls, d, rfl, JT, nb, up, sky, na, os, ag, hm1, hk⟩ := xx
    have J0 : Inv X pins σI HI sI := JT.ofTry okX
    refine Sky.land (Q := _) Zc.steady frX hfr (show Sky B (X.env :: X.outer) a (Zc cls d) X.env.locals t.heap by rw [← hst]; exact sky) fun hA flA upA => ?_
    have JA : Inv X pins σI HI { t with heap := hA } := J0.landed nb flA.1 (up.trans upA) os ag
    obtain ⟨oA, vA, eA, zA, dA⟩ := flA.there
    have offF : a ∉ frs (X.env :: X.outer) := fun hm => by
      obtain ⟨_, o2, e2, n2⟩ := flA.2.2.1.mem hm
      rw [eA] at e2
      cases e2
      exact n2 _ dA
    have offL : a ≠ X.env.locals := fun t => offF (List.mem_filterMap.mpr ⟨X.env, List.mem_cons_self, t ▸ hfr⟩)
    have offO : a ∉ X.fs := fun hm => by
      obtain ⟨ev, he, q⟩ := List.mem_filterMap.mp hm
      exact offF (List.mem_filterMap.mpr ⟨ev, List.mem_cons_of_mem _ he, q⟩)
    have offI : sI.heap.get? a = none := by
      cases q : sI.heap.get? a with
      | none => rfl
      | some o2 =>
        have q2 := nb a o2 q (by rw [hst]; exact offF)
        rw [flA.2.1] at q2; cases q2
    have off0 : X.s_0.heap.get? a = none := by
      cases q : X.s_0.heap.get? a with
      | none => rfl
      | some o2 =>
        obtain ⟨o3, q2⟩ := J0.base.there a o2 q (by rw [hex]; exact fun z => nomatch z)
        rw [offI] at q2; cases q2
    have offP : ∀ q ∈ X.pn ++ pins, q.1 ≠ a := fun q hq t => by
      have g := (J0.pin q hq).1
      rw [t, offI] at g; cases g
    have SA := JA.suite eA dA na offL offO
    refine wpAny_handleBy_cons (codeAny_handlers_test ?_) (fun q => by cases q)
    have LM := PySem.W.exm_one (M := model X.prog X.w) JA.kIn (fun _ _ _ _ k q => wpAny_typeOf_ref (k _ _ eA) (by rw [zA.1]; exact q)) hm1
    have tst : ∀ {Q : Value → Shared → Prop} {E : Value → Shared → Prop}, Q c { t with heap := hA } → wpAny (model X.prog X.w) (X.A.mark (some (.ref a))) (eval (.Name x np) X.env) Q E { t with heap := hA } := fun q => by
      obtain ⟨g1, g2, g3 | ⟨g3, g4, g5⟩⟩ := hc
      · exact ld_glob (X := X.suite a ((a, oA) :: (X.pn ++ pins))) SA g1 g3 q g2
      · exact ld_blt (X := X.suite a ((a, oA) :: (X.pn ++ pins))) SA g1 g3 g4 q g5 g2
    refine tst (LM.here (codeAny_handlers_suite_as (HandSPX.lands_againZ flA fun hB flB upB => ?_)))
    have JB : Inv X pins σI HI { t with heap := hB } := J0.landed nb flB.1 ((up.trans upA).trans upB) os ag
    obtain ⟨oB, vB, eB, zB, dB⟩ := flB.there
    refine store_ok (X := X.suite a ((a, oB) :: (X.pn ++ pins))) (v := .ref a) (JB.suite eB dB na offL offO) hN hi (.inl hln) rfl (fun t5 S5 => ?_) (.inr hln)
    have li : i < σI.length := by rw [J0.len]; exact (List.getElem?_eq_some_iff.mp hi).1
    refine wpAny_mono ((kept_suite (p1 := p1) (p2 := p2) (p3 := p3) hN hi hln hj hly hsw hd1 hd2 a oB (X.pn ++ pins)).run [] t5 _ HI ⟨fun σ6 H6 => σ6 = (σI.set i (some (.ref a))).set j (some (.ref a)) ∧ H6 = HI, fun _ _ => False, fun _ _ => False, fun _ _ => False⟩ S5 ?_) (fun f t6 hsp => ?_) (fun _ _ z => z.elim)
    · exact ⟨.ref a, List.getElem?_set_self li, rfl, rfl⟩
    · cases f with
      | next =>
        obtain ⟨σ6, H6, S6, rfl, rfl⟩ := hsp
        refine gone_ok (X := X.suite a ((a, oB) :: (X.pn ++ pins))) S6 hN hi hln fun t7 S7 => ?_
        have g7 := (S7.pin (a, oB) (List.mem_append_left _ List.mem_cons_self)).1
        exact ⟨_, _, track (S7.unsuite okX) na g7 zB dB off0 offL offP, hk a na⟩
      | brk => obtain ⟨_, _, _, z⟩ := hsp; exact z.elim
      | cont => obtain ⟨_, _, _, z⟩ := hsp; exact z.elim
      | ret u => obtain ⟨_, _, _, _, _, z⟩ := hsp; exact z.elim
  · cases f with
    | next => obtain ⟨σ2, H2, J2, g⟩ := hsp; exact wpAny_execs_nil (show SP X pins D .next t from ⟨σ2, H2, J2.ofTry okX, g⟩)
    | brk => obtain ⟨σ2, H2, J2, g⟩ := hsp; exact show SP X pins D .brk t from ⟨σ2, H2, J2.ofTry okX, g⟩
    | cont => obtain ⟨σ2, H2, J2, g⟩ := hsp; exact show SP X pins D .cont t from ⟨σ2, H2, J2.ofTry okX, g⟩
    | ret u => obtain ⟨v2, σ2, H2, J2, r2, g⟩ := hsp; exact show SP X pins D (.ret u) t from ⟨v2, σ2, H2, J2.ofTry okX, r2, g⟩
end
end AL
namespace AL
open PySem PySem.Spec L2
open PyProof.Rows hiding St
/-- a def that may raise -/
structure CalX (P : Program) (w : World) (K : PySem.W.Frag) (mg : Str → Option Value) (base : Heap) (x : Str) (k : Nat) (ps : List Str) (sp : ASp) : Prop where
  ex : ∃ f fd, FnOk P w K mg base (L2.CX P w) k f fd ps (low ⟨P, w, K⟩ sp) ∧ mg x = some (.ref f) ∧ PySem.W.keepIn K (.ref f) = true ∧ Binds K fd ps []
section
variable {X : Cx} {x n y fn : Str} {c : Value} {i j k : Nat} {e : Expr} {es : List Expr} {np p p1 p2 p3 cpos spos pos pos' : Pos} {ρ : AS} {G : AH} {A : AEnds} {ps : List Str} {sp : ASp}
theorem s_tryKeepE (C : CalX X.prog X.w X.K X.mg X.base fn k ps sp) (hr : Room k X.A) (hcl : Names X x c) (hN : X.N.Nodup) (i j : Nat)
    (h : ∀ (pn : List (Addr × Obj)) (xe : Value → Shared → Prop), AQ (X.tr pn xe) (e :: es) ρ G fun ws G1 => sp ws G1 (fun w G2 => A.nx ρ G2) fun u o G2 => PySem.W.exmOne X.K u c = some true ∧ ∀ a, G2 a = none → A.nx (((ρ.set i (some (.ref a))).set j (some (.ref a))).set i none) (aup G2 a (.raw (EcO u o a))))
    (hst : X.stack = X.env :: X.outer := by rfl) (hfr : X.env.frame = some X.env.locals := by rfl) (hex : X.ex = [] := by rfl) (hi : X.N[i]? = some n := by rfl) (hln : X.env.kindOf n = some .local := by rfl) (hj : X.N[j]? = some y := by rfl) (hly : X.env.kindOf y = some .local := by rfl)
    (hsw : swapsWith (.Name n p2) (some (.Name y p1)) p3.line X.env = pure false := by rfl) (hd1 : (n == ("__debug__" : Str)) = false := by decide) (hd2 : (n == ("__classdict__" : Str)) = false := by decide)
    (hs : swapsWith (.Call (.Name fn p) (e :: es) [] cpos) none spos.line X.env = pure false := by rfl) (hg : Gl X fn := by rfl) (hdb : (fn == ("__debug__" : Str)) = false := by decide) (he : starEach (e :: es) X.env = (false, eval e X.env) :: starEach es X.env := by rfl) (hpl : (backTo cpos (starEach es X.env)).any (·.1) = false := by rfl) :
    S1 X (.Try [.Expr (.Call (.Name fn p) (e :: es) [] cpos) spos] [.ExceptHandler (some (.Name x np)) (some n) [.Assign [.Name y p1] (.Name n p2) p3] pos'] [] [] pos) ρ G A := by
  obtain ⟨f, fd, F, hm, hk, hb⟩ := C.ex
  refine S1.of (ps_tryKeep (c := c) (i := i) (j := j) (tb := fun Wx => tSeq (tDrop (tCallS (low ⟨X.prog, X.w, X.K⟩ sp) (WE Wx) fun σ H Q => ∃ ρ G Ka, (∀ (pn : List (Addr × Obj)) (xe : Value → Shared → Prop), AQ (X.tr pn xe) (e :: es) ρ G Ka) ∧ RS H σ ρ ∧ RG (cc X) H G ∧ ∀ vs H', CA (cc X) H (e :: es).length Ka vs H' → Q vs H')) tNext) hst hfr hex hN hi hln hj hly hcl hsw hd1 hd2 fun Wx pn xe tk _ => ?_) fun σ H rs rg => ?_
  · refine pss_one (ps_expr (X := X.tr pn xe) (pe_callS (X := X.tr pn xe) F hr hg hm hk hb (fun σ => passAt tk σ) ⟨fun pos pins s σ H Q I ⟨ρ, G, Ka, h, rs, rg, q⟩ => ?_⟩ hdb he hpl) hs)
    exact thn ((h pn xe).run pos pins s σ H I rs rg) fun u s' ⟨v, H', I', r, q'⟩ => ⟨v, H', I', r, q v H' q'⟩
  · refine ⟨ρ, G, _, h, rs, rg, fun vs H1 ⟨ws, G1, k1, r1, rg1, _, q⟩ => ⟨ws, G1, _, _, r1, rg1, q, fun v H2 ⟨w, G2, k2, r2, rg2, q2⟩ => ?_, fun u o H2 ⟨G2, k2, rg2, hm1, q2⟩ => ?_⟩⟩
    · exact ⟨_, G2, k1.trans k2, rs.mono (k1.trans k2), rg2, q2⟩
    · refine ⟨hm1, fun a ha => ?_⟩
      have k3 : Keep H2 (upd H2 a (EcO u o a)) := Keep.new ha
      have rs3 := (rs.mono (k1.trans k2)).mono k3
      exact ⟨_, _, (k1.trans k2).trans k3, ((rs3.set i (w := .ref a) (v := .ref a) rfl).set j (w := .ref a) (v := .ref a) rfl).setN i, rg2.new ha (show RO (cc X) _ a (.raw (EcO u o a)) from upd_same), q2 a (rg2.free ha)⟩
theorem s_tryKeepA {r : Str} {pr : Pos} (C : CalX X.prog X.w X.K X.mg X.base fn k ps sp) (hr : Room k X.A) (hcl : Names X x c) (hN : X.N.Nodup) (m i j : Nat)
    (h : ∀ (pn : List (Addr × Obj)) (xe : Value → Shared → Prop), AQ (X.tr pn xe) (e :: es) ρ G fun ws G1 => sp ws G1 (fun w G2 => A.nx (ρ.set m (some w)) G2) fun u o G2 => PySem.W.exmOne X.K u c = some true ∧ ∀ a, G2 a = none → A.nx (((ρ.set i (some (.ref a))).set j (some (.ref a))).set i none) (aup G2 a (.raw (EcO u o a))))
    (hst : X.stack = X.env :: X.outer := by rfl) (hfr : X.env.frame = some X.env.locals := by rfl) (hex : X.ex = [] := by rfl) (hm0 : X.N[m]? = some r := by rfl) (hx : Loc X.env.scope r := by first | exact .inl rfl | exact .inr rfl) (hfy : X.fn r = true ∨ X.env.scope.names.lookup r = some .local := by first | exact .inl rfl | exact .inr rfl) (hi : X.N[i]? = some n := by rfl) (hln : X.env.kindOf n = some .local := by rfl) (hj : X.N[j]? = some y := by rfl) (hly : X.env.kindOf y = some .local := by rfl)
    (hsw : swapsWith (.Name n p2) (some (.Name y p1)) p3.line X.env = pure false := by rfl) (hd1 : (n == ("__debug__" : Str)) = false := by decide) (hd2 : (n == ("__classdict__" : Str)) = false := by decide)
    (hs : swapsWith (.Call (.Name fn p) (e :: es) [] cpos) (some (.Name r pr)) spos.line X.env = pure false := by rfl) (hg : Gl X fn := by rfl) (hdb : (fn == ("__debug__" : Str)) = false := by decide) (he : starEach (e :: es) X.env = (false, eval e X.env) :: starEach es X.env := by rfl) (hpl : (backTo cpos (starEach es X.env)).any (·.1) = false := by rfl) :
    S1 X (.Try [.Assign [.Name r pr] (.Call (.Name fn p) (e :: es) [] cpos) spos] [.ExceptHandler (some (.Name x np)) (some n) [.Assign [.Name y p1] (.Name n p2) p3] pos'] [] [] pos) ρ G A := by
  obtain ⟨f, fd, F, hm, hk, hb⟩ := C.ex
  refine S1.of (ps_tryKeep (c := c) (i := i) (j := j) (tb := fun Wx => tSeq (tAsg (tCallS (low ⟨X.prog, X.w, X.K⟩ sp) (WE Wx) fun σ H Q => ∃ ρ G Ka, (∀ (pn : List (Addr × Obj)) (xe : Value → Shared → Prop), AQ (X.tr pn xe) (e :: es) ρ G Ka) ∧ RS H σ ρ ∧ RG (cc X) H G ∧ ∀ vs H', CA (cc X) H (e :: es).length Ka vs H' → Q vs H') (gName m)) tNext) hst hfr hex hN hi hln hj hly hcl hsw hd1 hd2 fun Wx pn xe tk _ => ?_) fun σ H rs rg => ?_
  · refine pss_one (ps_set (X := X.tr pn xe) hN hm0 hx (pe_callS (X := X.tr pn xe) F hr hg hm hk hb (fun σ => passAt tk σ) ⟨fun pos pins s σ H Q I ⟨ρ, G, Ka, h, rs, rg, q⟩ => ?_⟩ hdb he hpl) hs hfy)
    exact thn ((h pn xe).run pos pins s σ H I rs rg) fun u s' ⟨v, H', I', r, q'⟩ => ⟨v, H', I', r, q v H' q'⟩
  · refine ⟨ρ, G, _, h, rs, rg, fun vs H1 ⟨ws, G1, k1, r1, rg1, _, q⟩ => ⟨ws, G1, _, _, r1, rg1, q, fun v H2 ⟨w, G2, k2, r2, rg2, q2⟩ => ?_, fun u o H2 ⟨G2, k2, rg2, hm1, q2⟩ => ?_⟩⟩
    · exact ⟨_, G2, k1.trans k2, (rs.mono (k1.trans k2)).set m r2, rg2, q2⟩
    · refine ⟨hm1, fun a ha => ?_⟩
      have k3 : Keep H2 (upd H2 a (EcO u o a)) := Keep.new ha
      have rs3 := (rs.mono (k1.trans k2)).mono k3
      exact ⟨_, _, (k1.trans k2).trans k3, ((rs3.set i (w := .ref a) (v := .ref a) rfl).set j (w := .ref a) (v := .ref a) rfl).setN i, rg2.new ha (show RO (cc X) _ a (.raw (EcO u o a)) from upd_same), q2 a (rg2.free ha)⟩
end
/-! ### isinstance of such an error -/
/-- a class as a value: one of the text, or a built-in one -/
def clW : W → Option Value
  | .ref C => some (.ref C)
  | .ty n => some (.type n)
  | _ => none
def clWs : List W → Option (List Value)
  | [] => some []
  | w :: ws => match clW w, clWs ws with
    | some v, some vs => some (v :: vs)
    | _, _ => none
theorem clW_rel {H : Hp} {w : W} {v : V} {u c : Value} (h : clW w = some c) (r : RV H w v) (q : RelV v u) : u = c := by
  cases w with
  | ref C => cases h; cases (show v = .ref C from r); exact q
  | ty n => cases h; cases (show v = .ty n from r); exact q
  | _ => cases h
theorem clWs_rel {H : Hp} : ∀ {ws : List W} {vs : List V} {us cs : List Value}, clWs ws = some cs → RVs H ws vs → Vals vs us → us = cs
  | [], _, _, _, h, r, q => by cases h; cases r; cases q; rfl
  | w :: ws, _, _, _, h, r, q => by
    obtain ⟨v, r', rfl, h1, h2⟩ := r
    cases q with
    | cons q1 q2 =>
      unfold clWs at h
      cases e : clW w with
      | none => rw [e] at h; cases h
      | some c =>
        cases e2 : clWs ws with
        | none => rw [e, e2] at h; cases h
        | some cs =>
          rw [e, e2] at h
          cases h
          rw [clW_rel e h1 q1, clWs_rel e2 h2 q2]
def fIsE (c : Ct) : CRW := fun ws G K => match ws with
  | [.ref a, .tup cs] => ∃ C us b, G a = some (.raw (EcO (.ref C) none a)) ∧ ExcC c.K C ∧ clWs cs = some us ∧ PySem.W.kitAny c.K (.ref C) us = some b ∧ K (.bl b) G
  | [.ref a, x] => ∃ C u b, G a = some (.raw (EcO (.ref C) none a)) ∧ ExcC c.K C ∧ clW x = some u ∧ PySem.W.kitOne c.K (.ref C) u = some b ∧ K (.bl b) G
  | _ => False
def rIsEc (K : PySem.W.Frag) : List V → Hp → VK → Prop := fun xs H Q => ∃ (a C : Addr) (x : V), xs = [.ref a, x] ∧ H a = some (EcO (.ref C) none a) ∧ ExcC K C ∧
  ((∃ (u : Value) (b : Bool), (∀ u', RelV x u' → u' = u) ∧ PySem.W.kitOne K (.ref C) u = some b ∧ Q (.bl b) H) ∨
   ∃ (tp : Addr) (cs : List V) (us : List Value) (b : Bool), x = .ref tp ∧ H tp = some (.tup cs) ∧ (∀ us', Vals cs us' → us' = us) ∧ PySem.W.kitAny K (.ref C) us = some b ∧ Q (.bl b) H)
theorem call_isEc {X : Cx} : CallR X (.builtin "isinstance") (rIsEc X.K) := by
  intro pins s σ H xs us Q I r h
  obtain ⟨a, C, x, rfl, ha, hC, h⟩ := h
  obtain ⟨u1, u2, rfl, r1, r2⟩ := vals2 r
  cases (show u1 = Value.ref a from r1)
  obtain ⟨⟨oe, vs, e, ⟨z1, z2⟩, hd⟩, _, _⟩ := (show ObjOk X.prog X.w H s.heap a (EcO (.ref C) none a) from I.hok a _ ha)
  have J : PySem.W.InstAt s.heap a oe C none := by
    obtain ⟨oc, od, oda, osl⟩ := oe
    dsimp only at z1 z2 hd
    subst z1 z2 hd
    exact ⟨e, rfl, rfl, trivial⟩
  have Z := PySem.W.handS_kitx_exc (x := a) (ox := oe) hC.hg hC.hk hC.hs hC.hd hC.ha hC.hn hC.ht hC.hm
  rcases h with ⟨u, b, hu, hk, q⟩ | ⟨tp, cs, us, b, rfl, hT, hu, hk, q⟩
  · cases hu u2 r2
    exact PySem.W.kia_one Z I.kIn J hk (fun z => nomatch z) fun tk => ⟨.bl b, H, I.tok tk, rfl, q⟩
  · cases (show u2 = Value.ref tp from r2)
    obtain ⟨_, its, rv, o, h1, h2, n, h3⟩ := (show ObjOk X.prog X.w H s.heap tp (.tup cs) from I.hok tp _ hT)
    have e3 := hu its rv
    subst e3
    obtain ⟨oc, od, dt, sl⟩ := o
    simp only at h2 h3
    subst h2 h3
    exact PySem.W.kia_tup Z I.kIn J h1 hk (fun z => nomatch z) fun tk => ⟨.bl b, H, I.tok tk, rfl, q⟩
theorem cr_isEc {c : Ct} : CR' c (rIsEc c.K) (fIsE c) := by
  intro ws vs H G K Q r g h q
  have one : ∀ (a : Addr) (x : W), (∃ C u b, G a = some (.raw (EcO (.ref C) none a)) ∧ ExcC c.K C ∧ clW x = some u ∧ PySem.W.kitOne c.K (.ref C) u = some b ∧ K (.bl b) G) → RVs H [.ref a, x] vs → rIsEc c.K vs H Q := fun a x ⟨C, u, b, h1, h2, h3, h4, k⟩ r => by
    obtain ⟨v, v', rfl, r1, r2⟩ := rv2 r
    cases (show v = .ref a from r1)
    exact ⟨a, C, v', rfl, g _ _ h1, h2, .inl ⟨u, b, fun u' q' => clW_rel h3 r2 q', h4, q _ _ (.stay (w := .bl b) rfl g k)⟩⟩
  match ws, h with
  | [.ref a, .tup cs], h =>
    obtain ⟨C, us, b, h1, h2, h3, h4, k⟩ := h
    obtain ⟨v, v', rfl, r1, tp, cvs, rfl, hT, rc⟩ := rv2 r
    cases (show v = .ref a from r1)
    exact ⟨a, C, .ref tp, rfl, g _ _ h1, h2, .inr ⟨tp, cvs, us, b, rfl, hT, fun us' q' => clWs_rel h3 rc q', h4, q _ _ (.stay (w := .bl b) rfl g k)⟩⟩
  | [.ref a, .ref C], h => exact one a _ h r
  | [.ref a, .ty n], h => exact one a _ h r
  | [.ref a, .non], h => exact one a _ h r
  | [.ref a, .bl _], h => exact one a _ h r
  | [.ref a, .int _], h => exact one a _ h r
  | [.ref a, .str _], h => exact one a _ h r
  | [.ref a, .lst _], h => exact one a _ h r
section
variable {X : Cx} {e : Expr} {es : List Expr} {p pos : Pos} {ρ : AS} {G : AH} {K : W → AH → Prop}
theorem q_isE (hm : X.mg "isinstance" = none) (h : AQ X (e :: es) ρ G fun ws G1 => fIsE (cc X) ws G1 K) (hg : Gl X "isinstance" := by rfl)
    (he : starEach (e :: es) X.env = (false, eval e X.env) :: starEach es X.env := by rfl) (hpl : (backTo pos (starEach es X.env)).any (·.1) = false := by rfl) : EQ X (.Call (.Name "isinstance" p) (e :: es) [] pos) ρ G K :=
  q_callB (R := fIsE (cc X)) call_isEc cr_isEc hm (by decide +kernel) h hg (by decide) (by decide) he hpl
end
end AL
namespace AL
open PySem PySem.Spec L2
open PyProof.Rows hiding St
/-! ### bits of numbers that are not below nought -/
theorem band_nat (a b : Nat) : Builtin.bitAnd (a : Int) (b : Int) = ((a &&& b : Nat) : Int) := by
  rw [bitAnd_pp (Int.natCast_nonneg _) (Int.natCast_nonneg _)]; rfl
theorem bnot_nat (a : Nat) : Builtin.bitNot (a : Int) = Int.negSucc a := by
  show -(a : Int) - 1 = _
  omega
theorem bor_nat (a b : Nat) : Builtin.bitOr (a : Int) (b : Int) = ((a ||| b : Nat) : Int) := by
  unfold Builtin.bitOr
  rw [bnot_nat, bnot_nat, bitAnd_nn (by omega) (by omega)]
  have h : ∀ x : Nat, Builtin.bitNot (Int.negSucc x) = (x : Int) := fun x => by show -(Int.negSucc x) - 1 = _; omega
  rw [h, h, Int.toNat_natCast, Int.toNat_natCast, bnot_nat, h]
theorem add_and_or : ∀ (a b : Nat), (a ||| b) + (a &&& b) = a + b := by
  intro a
  induction a using Nat.strongRecOn with
  | _ a ih =>
    intro b
    by_cases h : a = 0
    · subst h; simp
    · have h1 := ih (a / 2) (by omega) (b / 2)
      have o : (a ||| b) = 2 * (a / 2 ||| b / 2) + (a % 2 ||| b % 2) := by
        have e1 : (a ||| b) / 2 = a / 2 ||| b / 2 := Nat.or_div_two
        have e2 : (a ||| b) % 2 = a % 2 ||| b % 2 := Nat.or_mod_two_pow (n := 1) (a := a) (b := b)
        omega
      have n : (a &&& b) = 2 * (a / 2 &&& b / 2) + (a % 2 &&& b % 2) := by
        have e1 : (a &&& b) / 2 = a / 2 &&& b / 2 := Nat.and_div_two
        have e2 : (a &&& b) % 2 = a % 2 &&& b % 2 := Nat.and_mod_two_pow (n := 1) (a := a) (b := b)
        omega
      rw [o, n]
      have ha : a % 2 = 0 ∨ a % 2 = 1 := by omega
      have hb : b % 2 = 0 ∨ b % 2 = 1 := by omega
      rcases ha with ha | ha <;> rcases hb with hb | hb <;> rw [ha, hb] <;> simp <;> omega
section
variable {X : Cx} {a b e o : Expr} {es : List Expr} {pos cpos apos : Pos} {ρ : AS} {G : AH} {K : W → AH → Prop}
def fNN (f : Nat → Nat → Nat) : WR := fun x y G K => ∃ i j : Nat, x = .int i ∧ y = .int j ∧ K (.int (f i j : Nat)) G
theorem rr_and {c : Ct} : RR c (rI0 fun i j => .int (Builtin.bitAnd i j)) (fNN (· &&& ·)) := by
  intro x y u v H G K Q rx ry g ⟨i, j, e1, e2, k⟩ q
  subst e1 e2
  cases (show u = .int i from rx); cases (show v = .int j from ry)
  refine ⟨i, j, rfl, rfl, ?_⟩
  show Q (V.int (Builtin.bitAnd (i : Int) (j : Int))) H
  rw [band_nat]
  exact q _ _ (.stay (w := .int _) rfl g k)
theorem rr_or {c : Ct} : RR c (rI0 fun i j => .int (Builtin.bitOr i j)) (fNN (· ||| ·)) := by
  intro x y u v H G K Q rx ry g ⟨i, j, e1, e2, k⟩ q
  subst e1 e2
  cases (show u = .int i from rx); cases (show v = .int j from ry)
  refine ⟨i, j, rfl, rfl, ?_⟩
  show Q (V.int (Builtin.bitOr (i : Int) (j : Int))) H
  rw [bor_nat]
  exact q _ _ (.stay (w := .int _) rfl g k)
theorem q_band (h : EQ X a ρ G fun x G1 => EQ X b ρ G1 fun y G2 => fNN (· &&& ·) x y G2 K) : EQ X (.BinOp a .BitAnd b pos) ρ G K := q_op op_and rr_and h
theorem q_bor (h : EQ X a ρ G fun x G1 => EQ X b ρ G1 fun y G2 => fNN (· ||| ·) x y G2 K) : EQ X (.BinOp a .BitOr b pos) ρ G K := q_op op_or rr_or h
def fShl : WR := fun x y G K => ∃ i j : Nat, x = .int i ∧ y = .int j ∧ CShl i j ∧ K (.int (i * 2 ^ j : Nat)) G
theorem rr_shl {c : Ct} : RR c (rI CShl fun i j => .int (i * 2 ^ j.toNat)) fShl := by
  intro x y u v H G K Q rx ry g ⟨i, j, e1, e2, h, k⟩ q
  subst e1 e2
  cases (show u = .int i from rx); cases (show v = .int j from ry)
  refine ⟨i, j, rfl, rfl, h, q _ _ (.stay (w := .int (i * 2 ^ j : Nat)) ?_ g k)⟩
  show V.int ((i : Int) * 2 ^ ((j : Int)).toNat) = V.int ((i * 2 ^ j : Nat) : Int)
  rw [Int.toNat_natCast, Int.natCast_mul, Int.natCast_pow]; rfl
theorem q_shl (h : EQ X a ρ G fun x G1 => EQ X b ρ G1 fun y G2 => fShl x y G2 K) : EQ X (.BinOp a .LShift b pos) ρ G K := q_op op_shlW rr_shl h
def fShr : WR := fun x y G K => ∃ i j : Nat, x = .int i ∧ y = .int j ∧ K (.int (i / 2 ^ j : Nat)) G
theorem rr_shr {c : Ct} : RR c (rI (fun _ j => 0 ≤ j) fun i j => .int (i / 2 ^ j.toNat)) fShr := by
  intro x y u v H G K Q rx ry g ⟨i, j, e1, e2, k⟩ q
  subst e1 e2
  cases (show u = .int i from rx); cases (show v = .int j from ry)
  refine ⟨i, j, rfl, rfl, Int.natCast_nonneg _, q _ _ (.stay (w := .int (i / 2 ^ j : Nat)) ?_ g k)⟩
  show V.int ((i : Int) / 2 ^ ((j : Int)).toNat) = V.int ((i / 2 ^ j : Nat) : Int)
  rw [Int.toNat_natCast, Int.natCast_ediv, Int.natCast_pow]; rfl
theorem q_shr (h : EQ X a ρ G fun x G1 => EQ X b ρ G1 fun y G2 => fShr x y G2 K) : EQ X (.BinOp a .RShift b pos) ρ G K := q_op op_shr rr_shr h
theorem AQ.mono'' {X : Cx} {e : List Expr} {ρ : AS} {G : AH} {K K' : List W → AH → Prop} (h : AQ X e ρ G K) (i : ∀ w G, K w G → K' w G) : AQ X e ρ G K' :=
  AQ.of pa_A fun σ H rs rg => ⟨ρ, G, K, h, rs, rg, fun vs H' ⟨ws, G', k1, r, g, l, k⟩ => ⟨ws, G', k1, r, g, l, i _ _ k⟩⟩
/-- a method of a list, tracked or by value, that changes nothing -/
theorem q_lmL {name : Str} {id : String} {r : V → List V → Hp → VK → Prop} (slot : Slot "list" name id) (hty : typeOf (.builtin id) = pure (.type "method_descriptor")) (hm : MtR X id r)
    (h : EQ X o ρ G fun x G1 => ∃ xs, LsA G1 x xs ∧ AQ X (e :: es) ρ G1 fun ws G2 => LsA G2 x xs ∧ ∀ (a : Addr) (us vs : List V) (H : Hp) (Q : VK), RG (cc X) H G2 → SqL X.K H a us → RVs H xs us → RVs H ws vs → (∀ z H', CW (cc X) H K z H' → Q z H') → r (.ref a) vs H Q)
    (hbase : attributeBase o name X.env (eval o X.env) = eval o X.env := by rfl)
    (hfew : ((backTo cpos (starEach (e :: es) X.env)).all (fun x => !x.1) && (backToKw cpos (keywordEach [] X.env)).all (fun x => x.1.isSome)
      && decide ((e :: es).length + ([] : List Keyword).length + (if ([] : List Keyword).isEmpty then 0 else 1) < 30)) = true := by rfl)
    (hline : (apos.endLine == cpos.line) = true := by rfl) (hs : starEach (e :: es) X.env = (false, eval e X.env) :: starEach es X.env := by rfl) (hplain : (backTo cpos (starEach es X.env)).any (·.1) = false := by rfl) :
    EQ X (.Call (.Attribute o name apos) (e :: es) [] cpos) ρ G K :=
  EQ.of (pe_bm PySem.F.plainAttrs_list slot hty hm pe_E pa_A hbase hfew hline hs hplain) fun σ H rs rg => ⟨ρ, G, _, h, rs, rg, fun u H1 ⟨x, G1, k1, rx, rg1, xs, hx, q⟩ => by
    obtain ⟨a, us, rfl, hs1, _⟩ := hx.sq rg1 rx
    refine ⟨.inl ⟨rfl, us, hs1⟩, ρ, G1, _, q, rs.mono k1, rg1, fun vs H2 ⟨ws, G2, k2, r2, rg2, _, hx2, q2⟩ => ?_⟩
    obtain ⟨a2, us2, e2, hs2, ru2⟩ := hx2.sq rg2 (rx.mono k2)
    cases e2
    exact q2 a us2 vs H2 _ rg2 hs2 ru2 r2 fun z H' y => y.pre (k1.trans k2)⟩
theorem flat_strs (xs : List Str) : (xs.map V.str).all flatV = true := List.all_eq_true.mpr fun z hz => by obtain ⟨n, _, rfl⟩ := List.mem_map.mp hz; rfl
theorem q_indexS (slot : Slot "list" "index" "list.index") (hty : typeOf (.builtin "list.index") = pure (.type "method_descriptor"))
    (h : EQ X o ρ G fun x G1 => ∃ xs : List Str, LsA G1 x (xs.map W.str) ∧ AQ X (e :: es) ρ G1 fun ws G2 => ∃ (z : Str) (j : Nat), ws = [.str z] ∧ LsA G2 x (xs.map W.str) ∧ xs[j]? = some z ∧ (∀ m, m < j → xs[m]? ≠ some z) ∧ K (.int j) G2)
    (hbase : attributeBase o "index" X.env (eval o X.env) = eval o X.env := by rfl)
    (hfew : ((backTo cpos (starEach (e :: es) X.env)).all (fun x => !x.1) && (backToKw cpos (keywordEach [] X.env)).all (fun x => x.1.isSome)
      && decide ((e :: es).length + ([] : List Keyword).length + (if ([] : List Keyword).isEmpty then 0 else 1) < 30)) = true := by rfl)
    (hline : (apos.endLine == cpos.line) = true := by rfl) (hs : starEach (e :: es) X.env = (false, eval e X.env) :: starEach es X.env := by rfl) (hplain : (backTo cpos (starEach es X.env)).any (·.1) = false := by rfl) :
    EQ X (.Call (.Attribute o "index" apos) (e :: es) [] cpos) ρ G K :=
  q_lmL slot hty mt_index (h.mono fun x G1 ⟨xs, hx, q⟩ => ⟨_, hx, AQ.mono'' q fun ws G2 ⟨z, j, e1, hx2, hj, hno, k⟩ => ⟨hx2, fun a us vs H Q rg hs ru r2 kq => by
    subst e1
    obtain ⟨v, rfl, hv⟩ := rv1 r2
    cases (show v = .str z from hv)
    cases ru.strs_eq
    refine ⟨a, _, .str z, j, .str z, rfl, rfl, hs, rfl, flat_strs xs, by rw [List.getElem?_map, hj]; rfl, by simp [eqV], fun m y hm hy => ?_, kq _ _ (.stay (w := .int j) rfl rg k)⟩
    rw [List.getElem?_map] at hy
    cases e : xs[m]? with
    | none => rw [e] at hy; cases hy
    | some n =>
      rw [e] at hy
      cases hy
      have : n ≠ z := fun t => hno m hm (by rw [e, t])
      simp [eqV, this]⟩⟩) hbase hfew hline hs hplain
end
end AL
namespace AL
open PySem PySem.Spec L2
open PyProof.Rows hiding St
/-! ### a dict written out, d.pop(k), data of any depth compared -/
section
variable {X : Cx}
/-- the pairs of a dict that is written out -/
def dispK (X : Cx) : List (Expr × Expr) → AS → AH → (List (W × W) → AH → Prop) → Prop
  | [], _, G, K => K [] G
  | (a, b) :: r, ρ, G, K => EQ X a ρ G fun x G1 => EQ X b ρ G1 fun y G2 => dispK X r ρ G2 fun ps G3 => K ((x, y) :: ps) G3
theorem disp_low {c : Ct} (hc : c = cc X) : ∀ (prs : List (Expr × Expr)) (ρ : AS) (G : AH) (K : List (W × W) → AH → Prop) (σ : L2.St) (H : Hp) (Q : List (V × V) → Hp → Prop), dispK X prs ρ G K → RS H σ ρ → RG c H G →
    (∀ vs H', (∃ ws G', Keep H H' ∧ Paired (fun (p : W × W) (q : V × V) => RV H' p.1 q.1 ∧ RV H' p.2 q.2) ws vs ∧ RG c H' G' ∧ K ws G') → Q vs H') → tPairs (prs.map fun p => (tE X p.1, tE X p.2)) σ H Q
  | [], ρ, G, K, σ, H, Q, h, rs, rg, q => q [] H ⟨[], G, Keep.refl, .nil, rg, h⟩
  | (a, b) :: r, ρ, G, K, σ, H, Q, h, rs, rg, q => by
    subst hc
    refine ⟨ρ, G, _, h, rs, rg, fun u H1 ⟨x, G1, k1, rx, rg1, h1⟩ => ⟨ρ, G1, _, h1, rs.mono k1, rg1, fun v H2 ⟨y, G2, k2, ry, rg2, h2⟩ => ?_⟩⟩
    refine disp_low rfl r ρ G2 _ σ H2 _ h2 (rs.mono (k1.trans k2)) rg2 fun vs H3 ⟨ws, G3, k3, pr, rg3, k⟩ => ?_
    exact q _ _ ⟨(x, y) :: ws, G3, (k1.trans k2).trans k3, .cons ⟨rx.mono (k2.trans k3), ry.mono k3⟩ pr, rg3, k⟩
theorem pps_of {pos : Pos} : ∀ prs : List (Expr × Expr), PPs X pos (prs.map fun p => some p.1) (prs.map (·.2)) (prs.map fun p => (tE X p.1, tE X p.2))
  | [] => pps_nil
  | (a, b) :: r => pps_cons pe_E pe_E (pps_of r)
theorem kws_low {H : Hp} : ∀ {kws : List (Key × W)} {vs : List (V × V)}, Paired (fun (p : W × W) (q : V × V) => RV H p.1 q.1 ∧ RV H p.2 q.2) (kws.map fun kv => (wK kv.1, kv.2)) vs → ∃ kvs : List (Key × V), vs = kvs.map (fun kv => (kV kv.1, kv.2)) ∧ KWV H kws kvs
  | [], _, h => by cases h; exact ⟨[], rfl, .nil⟩
  | kw :: kws, _, h => by
    rw [List.map_cons] at h
    cases h with
    | @cons p q ps qs h1 t =>
      obtain ⟨kvs, e, r⟩ := kws_low t
      have e1 := rv_key (keyW_wK kw.1) h1.1
      obtain ⟨q1, q2⟩ := q
      exact ⟨(kw.1, q2) :: kvs, by rw [e, List.map_cons, show q1 = kV kw.1 from e1], .cons ⟨rfl, h1.2⟩ r⟩
theorem q_dispL (prs : List (Expr × Expr)) {pos : Pos} {ρ : AS} {G : AH} {K : W → AH → Prop} (hn : prs ≠ []) (h15 : prs.length ≤ 15)
    (h : ∀ p, G p = none → dispK X prs ρ (aup G p (.dK [])) fun ps G1 => ∃ kws : List (Key × W), ps = kws.map (fun kv => (wK kv.1, kv.2)) ∧ kws.length ≤ 15 ∧ G1 p = some (.dK []) ∧ K (.ref p) (aup G1 p (.dK (mgW [] kws)))) : EQ X (.Dict (prs.map fun p => some p.1) (prs.map (·.2)) pos) ρ G K :=
  EQ.of (pe_disp (pps_of prs) (by simp) (by simp) (by simpa using hn) (by simpa using h15)) fun σ H rs rg => fun p hp => by
    refine disp_low rfl prs ρ (aup G p (.dK [])) _ σ _ _ (h p (rg.free hp)) (rs.mono (Keep.new hp)) (rg.new hp (show RO _ _ p (.dK []) from ⟨[], upd_same, .nil⟩)) fun vs H' ⟨ws, G', k1, pr, rg1, kws, e, hkl, hg, q⟩ => ?_
    subst e
    obtain ⟨kvs, rfl, r⟩ := kws_low pr
    obtain ⟨kv0, h1, h2⟩ := rg1 p _ hg
    unfold KWV at h2
    cases h2
    have hl : kvs.length ≤ 15 := by rw [← r.len]; exact hkl
    obtain ⟨k4, rg4⟩ := rg1.mutD (kvs' := mergeK [] kvs) (kws' := mgW [] kws) h1 (r.merge .nil)
    exact ⟨h1, kvs, rfl, hl, .ref p, _, ((Keep.new hp).trans k1).trans k4, rfl, rg4, q⟩
theorem q_disp2 {a b x y : Expr} {pos : Pos} {ρ : AS} {G : AH} {K : W → AH → Prop} (h : ∀ p, G p = none → dispK X [(a, x), (b, y)] ρ (aup G p (.dK [])) fun ps G1 => ∃ kws : List (Key × W), ps = kws.map (fun kv => (wK kv.1, kv.2)) ∧ kws.length ≤ 15 ∧ G1 p = some (.dK []) ∧ K (.ref p) (aup G1 p (.dK (mgW [] kws)))) : EQ X (.Dict [some a, some b] [x, y] pos) ρ G K :=
  q_dispL [(a, x), (b, y)] (by simp) (by simp) h
theorem q_disp3 {a b c x y z : Expr} {pos : Pos} {ρ : AS} {G : AH} {K : W → AH → Prop} (h : ∀ p, G p = none → dispK X [(a, x), (b, y), (c, z)] ρ (aup G p (.dK [])) fun ps G1 => ∃ kws : List (Key × W), ps = kws.map (fun kv => (wK kv.1, kv.2)) ∧ kws.length ≤ 15 ∧ G1 p = some (.dK []) ∧ K (.ref p) (aup G1 p (.dK (mgW [] kws)))) : EQ X (.Dict [some a, some b, some c] [x, y, z] pos) ρ G K :=
  q_dispL [(a, x), (b, y), (c, z)] (by simp) (by simp) h
/-- d without k -/
def drW (kws : List (Key × W)) (k : Key) : List (Key × W) := kws.filter fun kv => decide (kv.1 ≠ k)
theorem KWV.drop {H : Hp} {kws : List (Key × W)} {kvs : List (Key × V)} (r : KWV H kws kvs) (k : Key) : KWV H (drW kws k) (L2.dropK kvs k) := by
  induction r with
  | nil => exact .nil
  | @cons p q ps qs h t ih =>
    obtain ⟨e, rv⟩ := h
    unfold drW L2.dropK
    rw [List.filter_cons, List.filter_cons]
    by_cases c : p.1 = k
    · rw [if_neg (by simp [c]), if_neg (by simp [← e, c])]; exact ih
    · rw [if_pos (by simp [c]), if_pos (by simp [← e, c])]; exact .cons ⟨e, rv⟩ ih
theorem lk_dr (kws : List (Key × W)) (k j : Key) : lk (drW kws k) j = if j = k then none else lk kws j := by
  induction kws with
  | nil => unfold drW; split <;> rfl
  | cons p r ih =>
    unfold drW at ih ⊢
    rw [List.filter_cons]
    by_cases c : p.1 = k
    · rw [if_neg (by simp [c]), ih, lk_cons]
      by_cases c2 : j = k
      · rw [if_pos c2, if_pos c2]
      · rw [if_neg c2, if_neg c2, if_neg (by rw [c]; exact Ne.symm c2)]
    · rw [if_pos (by simp [c]), lk_cons, ih, lk_cons]
      by_cases c2 : p.1 = j
      · rw [if_pos c2, if_pos c2, if_neg (by rw [← c2]; exact c)]
      · rw [if_neg c2, if_neg c2]
theorem q_dpop1 {o e : Expr} {apos cpos : Pos} {ρ : AS} {G : AH} {K : W → AH → Prop} (h : EQ X o ρ G fun x G1 => ∃ a kws, x = .ref a ∧ G1 a = some (.dK kws) ∧ EQ X e ρ G1 fun y G2 => ∃ kws k w, G2 a = some (.dK kws) ∧ keyW y = some k ∧ lk kws k = some w ∧ K w (aup G2 a (.dK (drW kws k)))) (m : M1 X o "pop" apos e cpos := by exact ⟨rfl, rfl, rfl, rfl⟩) : EQ X (.Call (.Attribute o "pop" apos) [e] [] cpos) ρ G K :=
  EQ.of (pe_dpop1 pe_E pe_E m) fun σ H rs rg => ⟨ρ, G, _, h, rs, rg, fun u H1 ⟨x, G1, k1, rx, rg1, a, kws0, e0, ha, hb⟩ => by
    subst e0
    cases (show u = .ref a from rx)
    obtain ⟨kv0, hr0, _⟩ := rg1 a _ ha
    refine ⟨a, rfl, IsD.of (.inl hr0), ρ, G1, _, hb, rs.mono k1, rg1, fun v H2 ⟨y, G2, k2, ry, rg2, kws, k, w, ha2, hk, hw, q⟩ => ?_⟩
    obtain ⟨kvs, hr, kv⟩ := rg2 a _ ha2
    have := kv.val k
    rw [hw] at this
    obtain ⟨z, hz, rz⟩ := this
    obtain ⟨k3, rg3⟩ := rg2.mutD (kvs' := L2.dropK kvs k) (kws' := drW kws k) hr (kv.drop k)
    exact ⟨kvs, k, z, hr, rv_key hk ry, hz, w, _, (k1.trans k2).trans k3, rz.mono k3, rg3, q⟩⟩
/-- data of any depth, compared -/
def rDeep (b : Bool) (K : PySem.W.Frag) : R2 := fun x y H Q => ∃ d e, Dp K H x d ∧ Dp K H y e ∧ d.canLay0 = true ∧ e.canLay0 = true ∧ d.depth ≤ 150 ∧ Q (.bl (if b = true then PyData.eqv d e else !PyData.eqv d e)) H
theorem op_deepEq (hu : X.A.units + 150 < cLine) : OpR X (compareOp .Eq) (rDeep true X.K) := by
  intro pins s σ H x y v u Q I rx ry h
  obtain ⟨d, e, hd, he, sd, se, hl, q⟩ := h
  obtain ⟨as, r1⟩ := Dp.reads I d x v hd rx
  obtain ⟨bs, r2⟩ := Dp.reads I e y u he ry
  exact SeqAt.compareEq_reads r1 r2 sd se (by omega) ⟨.bl _, H, I, rfl, q⟩
theorem op_deepNe (hu : X.A.units + 150 < cLine) : OpR X (compareOp .NotEq) (rDeep false X.K) := by
  intro pins s σ H x y v u Q I rx ry h
  obtain ⟨d, e, hd, he, sd, se, hl, q⟩ := h
  obtain ⟨as, r1⟩ := Dp.reads I d x v hd rx
  obtain ⟨bs, r2⟩ := Dp.reads I e y u he ry
  exact SeqAt.compareNe_reads r1 r2 sd se (by omega) ⟨.bl _, H, I, rfl, q⟩
def fDeep (b : Bool) : WR := fun x y G K => okW x = true ∧ okW y = true ∧ dpW x ≤ 150 ∧ K (.bl (if b = true then eqW x y else !eqW x y)) G
theorem rr_deep {c : Ct} (b : Bool) : RR c (rDeep b c.K) (fDeep b) := by
  intro x y u v H G K Q rx ry g ⟨h1, h2, h3, k⟩ q
  refine ⟨pdW x, pdW y, DW.low g _ x u (DW.of x h1) rx, DW.low g _ y v (DW.of y h2) ry, pd_lay x h1, pd_lay y h2, by rw [pd_depth]; exact h3, ?_⟩
  rw [pd_eqv x y h1 h2]
  exact q _ _ (.stay (w := .bl _) rfl g k)
variable {a b : Expr} {pos : Pos} {ρ : AS} {G : AH} {KB : Bool → AH → Prop}
theorem b_eqDeep (hu : X.A.units + 150 < cLine) (h : EQ X a ρ G fun x G1 => EQ X b ρ G1 fun y G2 => fDeep true x y G2 (tst KB)) : BQ X (.Compare a [.Eq] [b] pos) ρ G KB := b_cmp (op_deepEq hu) (rr_deep true) (nomark _) h
theorem b_neDeep (hu : X.A.units + 150 < cLine) (h : EQ X a ρ G fun x G1 => EQ X b ρ G1 fun y G2 => fDeep false x y G2 (tst KB)) : BQ X (.Compare a [.NotEq] [b] pos) ρ G KB := b_cmp (op_deepNe hu) (rr_deep false) (nomark _) h
theorem u150 {k : Nat} {A : Around} (r : Room k A) : A.units + 150 < cLine := by have := r.un; omega
end
end AL
namespace AL
open PySem PySem.Spec L2
open PyProof.Rows hiding St
/-! ### len of a dict -/
theorem call_lenD {X : Cx} : CallR X (.builtin "len") (fun xs H Q => ∃ a, ∃ kvs : List (Key × V), xs = [.ref a] ∧ Rd H a (.dK kvs) ∧ Q (.int kvs.length) H) := by
  intro pins s σ H xs us Q I r h
  obtain ⟨a, kvs, rfl, h, q⟩ := h
  obtain ⟨u, rfl, rx⟩ := vals1 r
  cases (show u = Value.ref a from rx)
  have hl : kvs.length ≤ sizeLine := by
    rcases h with h | ⟨o, h⟩
    · exact (show ObjOk X.prog X.w H s.heap a (.dK kvs) from I.hok a _ h).1
    · exact (show ObjOk X.prog X.w H s.heap a (.frz o (.dK kvs)) from I.hok a _ h).2.1
  obtain ⟨hd, vs, kv, dd⟩ := dict_rd I h
  have e := kv.length
  refine call_len_dict hd dd (by rw [← e]; rw [sizeLine_eq] at hl; omega) ?_
  exact ⟨.int kvs.length, H, I.tok _, ⟨_, by rw [e]⟩, q⟩
section
variable {X : Cx} {e : Expr} {es : List Expr} {p pos : Pos} {ρ : AS} {G : AH} {K : W → AH → Prop}
theorem q_lenD (hm : X.mg "len" = none) (h : AQ X (e :: es) ρ G fun ws G1 => ∃ w kws, ws = [w] ∧ DkA G1 w kws ∧ K (.int kws.length) G1) (hg : Gl X "len" := by rfl)
    (he : starEach (e :: es) X.env = (false, eval e X.env) :: starEach es X.env := by rfl) (hpl : (backTo pos (starEach es X.env)).any (·.1) = false := by rfl) : EQ X (.Call (.Name "len" p) (e :: es) [] pos) ρ G K :=
  q_callB (R := fun ws G1 K => ∃ w kws, ws = [w] ∧ DkA G1 w kws ∧ K (.int kws.length) G1) call_lenD (fun ws vs H G K Q r g ⟨w, kws, e, hd, k⟩ q => by
    subst e
    obtain ⟨v, rfl, hv⟩ := rv1 r
    obtain ⟨a, kvs, rfl, hr, kv⟩ := hd.rd g hv
    exact ⟨a, kvs, rfl, hr, q _ _ (.stay (w := .int kws.length) (by rw [kv.len]; rfl) g k)⟩) hm PySem.boot_len h hg (by decide) (by decide) he hpl
end
end AL
namespace SW
open PySem PySem.Spec L2 AL
/-- a dict made of a row of pairs with unlike keys -/
theorem di_foldF {N : Nat} (f : Nat → Nat) (fi : Nat → Nat) (g : Nat → W) : ∀ m, (∀ p, p < m → f p < N) → (∀ p, p < m → fi (f p) = p) → DI N (mgW [] ((List.range m).map fun p => ((.inl ((f p : Nat) : Int) : Key), g p))) fun j => if fi j < m ∧ f (fi j) = j then some (g (fi j)) else none
  | 0, _, _ => (DI.nil N).cong fun j => (if_neg (fun z => Nat.not_lt_zero _ z.1)).symm
  | m + 1, h, inv => by
    have ih := di_foldF f fi g m (fun p hp => h p (by omega)) fun p hp => inv p (by omega)
    have e : mgW [] ((List.range (m + 1)).map fun p => ((.inl ((f p : Nat) : Int) : Key), g p)) = pk (mgW [] ((List.range m).map fun p => ((.inl ((f p : Nat) : Int) : Key), g p))) (.inl ((f m : Nat) : Int)) (g m) := by
      unfold mgW
      rw [List.range_succ, List.map_append, List.foldl_append]; rfl
    rw [e]
    refine (ih.put (h m (Nat.lt_succ_self m)) (g m)).cong fun j => ?_
    by_cases c : j = f m
    · subst c
      rw [if_pos rfl, inv m (Nat.lt_succ_self m), if_pos ⟨Nat.lt_succ_self m, rfl⟩]
    · rw [if_neg c]
      by_cases c2 : fi j < m ∧ f (fi j) = j
      · rw [if_pos c2, if_pos ⟨by omega, c2.2⟩]
      · rw [if_neg c2, if_neg]
        intro z
        have : fi j ≠ m := fun z2 => c (by rw [← z2]; exact z.2.symm)
        exact c2 ⟨by omega, z.2⟩
theorem mg_len (f : Nat → Nat) (g : Nat → W) : ∀ m, (∀ p q, p < m → q < m → f p = f q → p = q) → (mgW [] ((List.range m).map fun p => ((.inl ((f p : Nat) : Int) : Key), g p))).length = m
  | 0, _ => rfl
  | m + 1, inj => by
    have ih := mg_len f g m fun p q hp hq => inj p q (by omega) (by omega)
    have e : mgW [] ((List.range (m + 1)).map fun p => ((.inl ((f p : Nat) : Int) : Key), g p)) = pk (mgW [] ((List.range m).map fun p => ((.inl ((f p : Nat) : Int) : Key), g p))) (.inl ((f m : Nat) : Int)) (g m) := by
      unfold mgW
      rw [List.range_succ, List.map_append, List.foldl_append]; rfl
    have no : ∀ n, n ≤ m → lk (mgW [] ((List.range n).map fun p => ((.inl ((f p : Nat) : Int) : Key), g p))) (.inl ((f m : Nat) : Int)) = none := by
      intro n
      induction n with
      | zero => intro _; rfl
      | succ n ihn =>
        intro hn
        have e2 : mgW [] ((List.range (n + 1)).map fun p => ((.inl ((f p : Nat) : Int) : Key), g p)) = pk (mgW [] ((List.range n).map fun p => ((.inl ((f p : Nat) : Int) : Key), g p))) (.inl ((f n : Nat) : Int)) (g n) := by
          unfold mgW
          rw [List.range_succ, List.map_append, List.foldl_append]; rfl
        rw [e2, lk_pk, if_neg, ihn (by omega)]
        intro z
        have z1 : ((f m : Nat) : Int) = ((f n : Nat) : Int) := by injection z
        have := inj m n (by omega) (by omega) (by omega)
        omega
    rw [e, pk_new _ (no m (Nat.le_refl m)), List.length_append, ih]; rfl
section
variable {P : Program} {w : World} {K : PySem.W.Frag} {mg : Str → Option Value} {base : Heap}
abbrev sPr : Stmt := top 15
abbrev nPr : List Str := ["terms", "leads", "costs", "best", "lead"]
theorem sc_pr : FnScope nPr ["terms", "leads", "costs"] (defScope sPr) := ⟨rfl, rfl, rfl, by decide +kernel, rfl, by decide +kernel, by decide +kernel⟩
def spPr : ASp := fun ws G K _ => ∃ (t l d : W) (ts : List Tm) (ls : List Nat) (kws : List (Key × W)), ws = [t, l, d] ∧ LsA G t (tW ts) ∧ LsA G l (nW ls) ∧ DkA G d kws ∧ CsOk kws ∧ LsOk ts ls ∧
  ∀ p b B, G p = none → Best ts ls (cst kws) b B → K (.ref p) (aup G p (.lst (nW (ls.map B))))
theorem ok_pr {f : Addr} {fd : FuncData} (F : Fun K "prices" "prices" sPr f fd) (CB : Cal P w K mg base "best_prices" 3 ["terms", "leads", "costs"] spBp) : FnOk P w K mg base CX0 4 f fd ["terms", "leads", "costs"] (low ⟨P, w, K⟩ spPr) := by
  refine fnA_of F sc_pr (fun ws G Kc KE ⟨_, _, _, _, _, _, e, _⟩ => by rw [e]; rfl) fun cdv A outer s H E ws G Kc KE hr ⟨t, l, d, ts, ls, kws, e, hT, hL, hD, hC, O, kk⟩ => ?_
  subst e
  refine s_cons (s_set (i := 3) sc_pr.nd (q_cal CB hr (a_cons (qv 0 rfl (a_cons (qv 1 rfl (a_cons (qv 2 rfl (a_nil ⟨t, l, d, ts, ls, kws, rfl, hT, hL, hD, hC, O, fun p bk b B hp hb hB => ?_⟩)))))))))
  have many := O.T.many
  refine s_cons (s_ret (q_lc sc_pr.nd (blkOk_by (N := nPr) (sc := defScope sPr) (own := [("lead", 4)]) (by decide +kernel)) (i_list (qv 1 rfl ⟨_, hL.new hp, ?_⟩))))
  refine lk_mapZ (zs := ls) (fun k => W.int (k : Nat)) (fun k => W.int (B k : Nat)) sc_pr.nd (by rw [O.g.len]; omega) (fun D ws hD => (hL.new hp).new hD) (fun k hk D ws hD s0 H0 C0 cl fp => ?_) (fun D hD => ?_)
  · obtain ⟨i, hi⟩ := List.mem_iff_getElem?.mp hk
    have hil := (List.getElem?_eq_some_iff.mp hi).1
    have hv := hB.val i (by rw [← O.g.len]; exact hil)
    rw [show Lf ls i = k by rw [Lf, List.getD_eq_getElem?_getD, hi]; rfl] at hv
    refine q_dget (u64 hr) (qv 3 rfl (qv 4 rfl ⟨bk, _, .int (B k : Nat), .inl (aup_new hD aup_same), keyW_nat k, ?_, rfl, rfl⟩))
    rw [hb.get]; show (b k).map _ = _; rw [hv]; rfl
  · obtain ⟨hD0, hDp⟩ := aup_free hD
    have e : (ls.map fun k => W.int (B k : Nat)) = nW (ls.map B) := by unfold nW; rw [List.map_map]; rfl
    rw [e]
    exact ⟨_, by rw [show aup (aup G p (.dK bk)) D (.lst (nW (ls.map B))) = aup (aup G D (.lst (nW (ls.map B)))) p (.dK bk) from aup_swap hDp.symm]; exact Sub.new (by rw [aup_ne hDp.symm]; exact hp), kk D b B hD0 hB⟩
end
end SW
namespace SW
open PySem PySem.Spec L2 AL
def Upto (l : List Addr) (G G' : AH) : Prop := ∀ q o, q ∉ l → G q = some o → G' q = some o
theorem Upto.refl {l : List Addr} {G : AH} : Upto l G G := fun _ _ _ h => h
theorem Upto.trans {l : List Addr} {G G1 G2 : AH} (h : Upto l G G1) (h' : Upto l G1 G2) : Upto l G G2 := fun q o n e => h' q o n (h q o n e)
theorem Upto.off {l : List Addr} {G G' : AH} (h : Offs l G G') : Upto l G G' := fun q o n e => by rw [h q n]; exact e
theorem Upto.new {l : List Addr} {G G' : AH} {p : Addr} {o : AO} (h : Upto l G G') (n : G' p = none) : Upto l G (aup G' p o) := fun q u m e => aup_new n (h q u m e)
theorem Upto.put {l : List Addr} {G G' : AH} {p : Addr} {o : AO} (h : Upto l G G') (n : p ∈ l) : Upto l G (aup G' p o) := fun q u m e => by
  rw [aup_ne (fun z => m (by rw [z]; exact n))]; exact h q u m e
theorem Upto.putN {l : List Addr} {G G' : AH} {p : Addr} {o : AO} (h : Upto l G G') (n : G p = none) : Upto l G (aup G' p o) := fun q u m e => by
  rw [aup_ne (ane_none e n)]; exact h q u m e
theorem Upto.free {l : List Addr} {G G' : AH} {p : Addr} (h : Upto l G G') (e : G' p = none) (n : p ∉ l) : G p = none := by
  cases q : G p with
  | none => rfl
  | some o => rw [h p o n q] at e; cases e
theorem Upto.nil {G G' : AH} (h : Upto [] G G') : Sub G G' := fun q o e => h q o (by simp) e
theorem Upto.ofSub {l : List Addr} {G G' : AH} (h : Sub G G') : Upto l G G' := fun q o _ e => h q o e
theorem Upto.more {l l' : List Addr} {G G' : AH} (h : Upto l G G') (s : ∀ q ∈ l, q ∈ l') : Upto l' G G' := fun q o n e => h q o (fun z => n (s q z)) e
/-- what is new has no one who knows it -/
theorem Upto.fresh {l : List Addr} {G G' : AH} (h : Upto l G G') (n : ∀ q ∈ l, G q = none) : Sub G G' := fun q o e => h q o (fun m => by rw [n q m] at e; cases e) e
theorem _root_.AL.LsA.upto {G G' : AH} {w : AL.W} {xs : List AL.W} {l : List Addr} (h : LsA G w xs) (o : Upto l G G') (n : ∀ q ∈ l, w ≠ .ref q) : LsA G' w xs := by
  cases w with
  | lst ys => exact h
  | ref a => exact o a _ (fun hm => n a hm rfl) h
  | _ => exact h.elim
/-! ### rows of lengths -/
theorem inc_ext : ∀ {a b : List Nat}, a.Pairwise (· < ·) → b.Pairwise (· < ·) → (∀ x, x ∈ a ↔ x ∈ b) → a = b
  | [], [], _, _, _ => rfl
  | [], y :: b, _, _, h => absurd ((h y).mpr List.mem_cons_self) (by simp)
  | x :: a, [], _, _, h => absurd ((h x).mp List.mem_cons_self) (by simp)
  | x :: a, y :: b, h1, h2, h => by
    have h1 := List.pairwise_cons.mp h1
    have h2 := List.pairwise_cons.mp h2
    have e : x = y := by
      have hx := (h x).mp List.mem_cons_self
      have hy := (h y).mpr List.mem_cons_self
      rcases List.mem_cons.mp hx with e | hx
      · exact e
      · rcases List.mem_cons.mp hy with e | hy
        · exact e.symm
        · have := h1.1 y hy; have := h2.1 x hx; omega
    subst e
    rw [inc_ext h1.2 h2.2 fun z => ?_]
    have := h z
    rw [List.mem_cons, List.mem_cons] at this
    constructor
    · intro hz
      rcases this.mp (.inr hz) with e | q
      · subst e; exact absurd (h1.1 z hz) (Nat.lt_irrefl _)
      · exact q
    · intro hz
      rcases this.mpr (.inr hz) with e | q
      · subst e; exact absurd (h2.1 z hz) (Nat.lt_irrefl _)
      · exact q
end SW
namespace SW
open PySem PySem.Spec L2 AL
def BoxOk (n : Nat) (B : List W) : Prop := ∃ x y z : Int, B = [.int x, .int y, .int z] ∧ 0 ≤ x ∧ 0 ≤ y ∧ y < 2147483648 ∧ 0 ≤ z ∧ z + n ≤ 1000000
theorem BoxOk.less {n m : Nat} {B : List W} (h : BoxOk n B) (l : m ≤ n) : BoxOk m B := by
  obtain ⟨x, y, z, e, h1, h2, h3, h4, h5⟩ := h
  exact ⟨x, y, z, e, h1, h2, h3, h4, by omega⟩
def BoxAt (G : AH) (a : Addr) (n : Nat) : Prop := ∃ B, G a = some (.lst B) ∧ BoxOk n B
theorem BoxAt.less {G : AH} {a : Addr} {n m : Nat} (h : BoxAt G a n) (l : m ≤ n) : BoxAt G a m := let ⟨B, h1, h2⟩ := h; ⟨B, h1, h2.less l⟩
theorem BoxAt.at {G G' : AH} {a : Addr} {n : Nat} (h : BoxAt G a n) (e : G' a = G a) : BoxAt G' a n := let ⟨B, h1, h2⟩ := h; ⟨B, e.trans h1, h2⟩
theorem BoxAt.new {G : AH} {a p : Addr} {n : Nat} {o : AO} (h : BoxAt G a n) (hp : G p = none) : BoxAt (aup G p o) a n := let ⟨B, h1, h2⟩ := h; ⟨B, aup_new hp h1, h2⟩
theorem BoxAt.old {G : AH} {a p : Addr} {n : Nat} {o : AO} (h : BoxAt G a n) (hp : a ≠ p) : BoxAt (aup G p o) a n := let ⟨B, h1, h2⟩ := h; ⟨B, aup_old hp h1, h2⟩
theorem mulok {i j : Int} (h : -(2 ^ 64) < i) (h' : i < 2 ^ 64) : IntMulOk i j := CMul.ok (.inl ⟨h, h'⟩)
theorem mulokR {i j : Int} (h : -(2 ^ 64) < j) (h' : j < 2 ^ 64) : IntMulOk i j := CMul.ok (.inr ⟨h, h'⟩)
theorem b01 (b : Bool) : 0 ≤ (if b = true then (1 : Int) else 0) ∧ (if b = true then (1 : Int) else 0) < 2 := by cases b <;> decide
theorem mulok01 (i : Int) (b : Bool) : IntMulOk i (if b = true then (1 : Int) else 0) := mulokR (by have := (b01 b).1; omega) (by have := (b01 b).2; omega)
section
variable {P : Program} {w : World} {K : PySem.W.Frag} {mg : Str → Option Value} {base : Heap}
abbrev sBox : Stmt := top 40
theorem sc_box : FnScope ["script", "k", "cell"] ["script", "k"] (defScope sBox) := ⟨rfl, rfl, rfl, by decide +kernel, rfl, by decide +kernel, by decide +kernel⟩
def spBox : ASp := fun ws G K _ => ∃ (a : Addr) (ns : List Int) (k : Nat), ws = [.ref a, .int k] ∧ G a = some (.lst (ns.map W.int)) ∧ k ≤ 100000 ∧ ∀ (p : Addr) (B : List W), G p = none → BoxOk 1000000 B → K (.ref p) (aup G p (.lst B))
theorem ok_box {f : Addr} {fd : FuncData} (F : Fun K "_law_box" "_law_box" sBox f fd) (B : Bl mg) : FnOk P w K mg base CX0 1 f fd ["script", "k"] (low ⟨P, w, K⟩ spBox) := by
  refine fnA_of F sc_box (fun ws G Kc KE ⟨a, ns, k, e, _⟩ => by rw [e]; rfl) fun cdv A outer s H E ws G Kc KE hr ⟨a, ns, k, e, hA, hk, kk⟩ => ?_
  subst e
  refine s_cons (s_set (i := 2) sc_box.nd (q_int ?_))
  refine s_cons (s_cut (P := fun ρ' G' => ∃ c : Int, ρ' = [some (.ref a), some (.int k), some (.int c)] ∧ G' = G) ?_ ?_)
  · refine s_if (b_lt (qv 1 rfl (q_len B.len (a_cons (qv 0 rfl (a_nil ⟨_, hA, ?_⟩))))))
    rw [List.length_map]
    refine ifB_dec (fun h => ?_) (fun h => ?_)
    · have hk2 : k < ns.length := by omega
      refine s_cons (s_set (i := 2) sc_box.nd (q_ix (qv 0 rfl (qv 1 rfl ⟨_, .int (ns.getD k 0), hA, atI_of (by simp [List.getD, hk2]), ?_⟩))))
      exact s_nil ⟨_, rfl, rfl⟩
    · exact s_nil ⟨0, rfl, rfl⟩
  · rintro ρ' G' ⟨c, rfl, rfl⟩
    refine s_cons (s_ret (q_lst (a_cons (q_mul (q_abs B.abs (a_cons (qv 2 rfl (a_nil ?_))))))))
    generalize hab : (if c < 0 then -c else c) = ac
    have ac0 : 0 ≤ ac := by split at hab <;> omega
    refine q_int1 B.int (a_cons (q_ge (q_abs B.abs (a_cons (qv 2 rfl (a_nil ?_))))))
    rw [hab]
    refine q_pow (q_int (q_int ⟨⟨by decide, by decide, by decide⟩, ?_⟩))
    refine a_nil ⟨mulok01 _ _, ?_⟩
    refine a_cons (q_mod (q_add (qv 2 rfl (q_mul (q_mul (q_int (qv 1 rfl ⟨mulok (by decide) (by decide), ?_⟩)))))))
    refine qv 1 rfl ⟨mulokR (by omega) (by omega), ?_⟩
    refine q_int ⟨by show (0 : Int) < 2147483647; decide, ?_⟩
    refine a_cons (q_int (a_nil fun p hp => ?_))
    refine ⟨_, Sub.refl, kk p _ hp ⟨_, _, 0, rfl, ?_, Int.emod_nonneg _ (by decide), Int.lt_of_lt_of_le (Int.emod_lt_of_pos _ (by decide)) (by decide), by decide, by decide⟩⟩
    exact Int.mul_nonneg ac0 (b01 _).1

abbrev sTake : Stmt := top 41
theorem sc_take : FnScope ["box", "many", "found", "once"] ["box", "many"] (defScope sTake) := ⟨rfl, rfl, rfl, by decide +kernel, rfl, by decide +kernel, by decide +kernel⟩
/-- taken from the box: any number below many; the box has one less left -/
def spTake : ASp := fun ws G K _ => ∃ (a : Addr) (n : Nat) (many : Int), ws = [.ref a, .int many] ∧ BoxAt G a (n + 1) ∧ 0 < many ∧ many < 2 ^ 60 ∧ ∀ r G', 0 ≤ r → r < many → Offs [a] G G' → BoxAt G' a n → K (.int r) G'
theorem ok_take {f : Addr} {fd : FuncData} (F : Fun K "_law_take" "_law_take" sTake f fd) (B : Bl mg) : FnOk P w K mg base CX0 1 f fd ["box", "many"] (low ⟨P, w, K⟩ spTake) := by
  refine fnA_of F sc_take (fun ws G Kc KE ⟨a, n, many, e, _⟩ => by rw [e]; rfl) fun cdv A outer s H E ws G Kc KE hr ⟨a, n, many, e, ⟨bx, hB, x, y, z, eb, hx, hy, hy2, hz, hz2⟩, hm, hm2, k⟩ => ?_
  subst e eb
  refine s_cons (s_if (b_gt (q_ix (qv 0 rfl (q_int ⟨_, .int x, hB, rfl, ?_⟩)))))
  refine q_int ?_
  refine ifB_dec (fun h => ?_) (fun h => ?_)
  · refine s_cons (s_asg (q_divmod B.divmod (a_cons (q_ix (qv 0 rfl (q_int ⟨_, .int x, hB, rfl, ?_⟩))))))
    refine a_cons (qv 1 rfl (a_nil ⟨divp_small hm (by omega), ?_⟩))
    refine g_tup rfl (gs_cons (g_ix (qv 0 rfl (q_int ⟨_, 0, hB, rfl, ?_⟩))))
    refine gs_cons (g_name (i := 2) sc_take.nd (gs_nil ?_))
    refine s_cons (s_ret (qv 2 rfl ⟨_, Sub.refl, ?_⟩))
    refine k _ _ (Int.emod_nonneg _ (by omega)) (Int.emod_lt_of_pos _ hm) (Offs.refl.put (by simp)) ⟨_, aup_same, ?_⟩
    exact ⟨x / many, y, z, rfl, Int.ediv_nonneg hx (by omega), hy, hy2, hz, by omega⟩
  · refine s_nil (s_cons (s_asg (q_add (q_ix (qv 0 rfl (q_int ⟨_, .int z, hB, rfl, ?_⟩))))))
    refine q_int (g_ix (qv 0 rfl (q_int ⟨_, 2, hB, rfl, ?_⟩)))
    have hB2 : (aup G a (.lst (([.int x, .int y, .int z] : List W).set 2 (.int (z + 1))))) a = some (.lst [.int x, .int y, .int (z + 1)]) := aup_same
    generalize hG2 : aup G a (.lst (([.int x, .int y, .int z] : List W).set 2 (.int (z + 1)))) = G2 at hB2 ⊢
    have off : Offs [a] G G2 := by rw [← hG2]; exact Offs.refl.put (by simp)
    refine s_cons (s_set (i := 3) sc_take.nd (q_mod (q_pow (q_add (q_ix (qv 0 rfl (q_int ⟨_, .int y, hB2, rfl, ?_⟩)))))))
    refine q_mul (q_int (q_ix (qv 0 rfl (q_int ⟨_, .int (z + 1), hB2, rfl, ?_⟩))))
    refine ⟨mulok (by decide) (by decide), ?_⟩
    refine q_int ⟨⟨by decide, by decide, by omega⟩, ?_⟩
    refine q_int ⟨by show (0 : Int) < 2147483647; decide, ?_⟩
    refine SQ.st [some (.ref a), some (.int many), none, some (.int ((y + 39373 * (z + 1)) ^ (5 : Int).toNat % 2147483647))] rfl ?_
    have o1 : 0 ≤ (y + 39373 * (z + 1)) ^ (5 : Int).toNat % 2147483647 := Int.emod_nonneg _ (by decide)
    have o2 : (y + 39373 * (z + 1)) ^ (5 : Int).toNat % 2147483647 < 2147483647 := Int.emod_lt_of_pos _ (by decide)
    generalize (y + 39373 * (z + 1)) ^ (5 : Int).toNat % 2147483647 = o at o1 o2 ⊢
    refine s_cons (s_ret (q_mod (q_fdiv (q_mod (q_add (q_mul (qv 3 rfl (q_int ⟨mulok (by omega) (by omega), ?_⟩))))))))
    refine q_mul (q_mul (q_ix (qv 0 rfl (q_int ⟨_, .int (z + 1), hB2, rfl, ?_⟩))))
    refine q_ix (qv 0 rfl (q_int ⟨_, .int (z + 1), hB2, rfl, ?_⟩))
    refine ⟨mulok (by omega) (by omega), ?_⟩
    refine q_int ⟨mulokR (by decide) (by decide), ?_⟩
    refine q_int ⟨by show (0 : Int) < 2147483629; decide, ?_⟩
    refine q_int ⟨⟨by decide, by decide⟩, ?_⟩
    refine qv 1 rfl ⟨hm, ?_⟩
    exact ⟨_, Sub.refl, k _ _ (Int.emod_nonneg _ (by omega)) (Int.emod_lt_of_pos _ hm) off ⟨_, hB2, x, y, z + 1, rfl, hx, hy, hy2, by omega, by omega⟩⟩
end
end SW
namespace SW
open PySem PySem.Spec L2 AL
theorem cutW_from {xs : List W} (k : Nat) : cutW xs (some (k : Int)) none = xs.drop k := by
  unfold cutW
  rw [HT.sIx_none, HT.sIx_nat, List.take_of_length_le (by rw [List.length_drop]; exact Nat.le_refl _)]
  by_cases h : k ≤ xs.length
  · rw [Nat.min_eq_left h]
  · rw [Nat.min_eq_right (by omega), List.drop_length, List.drop_eq_nil_of_le (by omega)]
theorem cutW_len {xs : List W} (j k : Nat) : (cutW xs (some (j : Int)) (some (k : Int))).length = min k xs.length - min j xs.length := by
  unfold cutW
  rw [HT.sIx_nat, HT.sIx_nat, List.length_take, List.length_drop]
  omega
section
variable {P : Program} {w : World} {K : PySem.W.Frag} {mg : Str → Option Value} {base : Heap}
abbrev sFold : Stmt := top 42
theorem sc_fold : FnScope ["script", "many", "cells", "k", "cell"] ["script", "many"] (defScope sFold) := ⟨rfl, rfl, rfl, by decide +kernel, rfl, by decide +kernel, by decide +kernel⟩
def spFold (c : Ct) : ASp := fun ws G K _ => ∃ (a : Addr) (ns : List Int) (many : Nat), ws = [.ref a, .int many] ∧ Scr c G a ns ∧ 0 < many ∧ many ≤ 1000 ∧ ns.length ≤ 63 ∧ ∀ (p : Addr) (ms : List Int), G p = none → ms.length = max 2 (min many ns.length) → K (.ref p) (aup G p (.lst (ms.map W.int)))
theorem ok_fold {f : Addr} {fd : FuncData} (F : Fun K "_law_folded" "_law_folded" sFold f fd) (B : Bl mg) : FnOk P w K mg base CX0 1 f fd ["script", "many"] (low ⟨P, w, K⟩ (spFold ⟨P, w, K⟩)) := by
  refine fnA_of F sc_fold (fun ws G Kc KE ⟨a, ns, many, e, _⟩ => by rw [e]; rfl) fun cdv A outer s H E ws G Kc KE hr ⟨a, ns, many, e, hA, hm, hm2, hn, k⟩ => ?_
  subst e
  refine s_cons (s_set (i := 2) sc_fold.nd (q_list B.list (a_cons (q_slS (qv 0 rfl (o_non (o_some (qv 1 rfl ⟨ns, hA, fun p1 h1 => ?_⟩))))))))
  rw [cutW_to, ← List.map_take]
  refine a_nil ⟨_, aup_same, fun c hc => ?_⟩
  refine s_cons (s_for PassesOwn.never rfl (i_enum rfl B.enumerate (q_slS (qv 0 rfl (o_some (qv 1 rfl (o_some (q_int ⟨ns, (hA.sub (Sub.new h1)).sub (Sub.new hc), fun l hl => ?_⟩))))))))
  obtain ⟨hc0, hcp⟩ := aup_free hc
  obtain ⟨hl1, hlc⟩ := aup_free hl
  obtain ⟨hl0, hlp⟩ := aup_free hl1
  have hl63 := cutW_len (xs := ns.map W.int) many 63
  rw [List.length_map] at hl63
  have items : ∀ i x, (cutW (ns.map W.int) (some (many : Int)) (some (63 : Int)))[i]? = some x → ∃ z : Int, x = W.int z := fun i (x : W) hx => by
    rw [cutW_map, List.getElem?_map] at hx
    obtain ⟨z, _, e⟩ := Option.map_eq_some_iff.mp hx
    exact ⟨z, e.symm⟩
  refine ⟨_, aup_same, ?_⟩
  have l63 : (cutW (ns.map W.int) (some (many : Int)) (some (63 : Int))).length = min 63 ns.length - min many ns.length := hl63
  generalize hcells : cutW (ns.map W.int) (some (many : Int)) (some (63 : Int)) = xs at items l63 ⊢
  generalize hG0 : aup (aup G p1 (.lst ((ns.take many).map W.int))) c (.lst ((ns.take many).map W.int)) = G0 at hl ⊢
  have hcG : G0 c = some (.lst ((ns.take many).map W.int)) := by rw [← hG0]; exact aup_same
  have offG : Offs [c, p1] G G0 := by rw [← hG0]; exact Offs.new (Offs.new Offs.refl)
  refine ⟨fun i ρ' G' => ∃ ms v v', ρ' = [some (.ref a), some (.int many), some (.ref c), v, v'] ∧ G' c = some (.lst (ms.map W.int)) ∧ ms.length = min many ns.length ∧ G' l = some (.lst xs) ∧ Offs [l, c, p1] G G', ⟨ns.take many, none, none, rfl, by rw [aup_ne (Ne.symm hlc)]; exact hcG, by rw [List.length_take], aup_same, Offs.new offG⟩, fun i ρ' G' _ ⟨_, _, _, _, _, _, h, _⟩ => h, fun i x ρ' G' hx ⟨ms, v, v', e1, hms, hml, hll, off⟩ => ?_, fun ρ' G' ⟨ms, v, v', e1, hms, hml, hll, off⟩ => ?_⟩
  · have hi : i < xs.length := by have := (List.getElem?_eq_some_iff.mp hx).1; rwa [enW_length] at this
    obtain ⟨z, hz⟩ := items i xs[i] (by simp [hi])
    rw [enW_get (show xs[i]? = some xs[i] by simp [hi])] at hx
    cases hx
    rw [hz]
    subst e1
    have hlen : ms.length = many := by omega
    have him : i % many < many := Nat.mod_lt _ hm
    refine g_tup rfl (gs_cons (g_name (i := 3) sc_fold.nd (gs_cons (g_name (i := 4) sc_fold.nd (gs_nil ?_)))))
    have at1 : atI (ms.map W.int) ((i : Int) % (many : Int)) = some (.int (ms.getD (i % many) 0)) := by
      have : ((i : Int) % (many : Int)) = ((i % many : Nat) : Int) := by omega
      rw [this]
      exact atI_of (by simp [List.getD, show i % many < ms.length by omega])
    have ix1 : ixN (ms.map W.int).length ((i : Int) % (many : Int)) = some (i % many) := by
      have : ((i : Int) % (many : Int)) = ((i % many : Nat) : Int) := by omega
      rw [this]
      exact ixN_nat (by rw [List.length_map]; omega)
    have mpos : (0 : Int) < (many : Int) := by omega
    refine s_cons (s_asg (q_add (q_ix (qv 2 rfl (q_mod (qv 3 rfl (qv 1 rfl ⟨mpos, _, _, hms, at1, ?_⟩)))))))
    refine q_mul (qv 4 rfl (q_add (qv 3 rfl (q_int ?_))))
    refine ⟨mulokR (by show -(2 ^ 64) < (i : Int) + 2; omega) (by show (i : Int) + 2 < 2 ^ 64; omega), ?_⟩
    refine g_ix (qv 2 rfl (q_mod (qv 3 rfl (qv 1 rfl ⟨mpos, _, _, hms, ix1, ?_⟩))))
    refine s_nil ⟨ms.set (i % many) (ms.getD (i % many) 0 + z * ((i : Int) + 2)), some (.int i), some (.int z), rfl, ?_, ?_, ?_, off.put (by simp)⟩
    · rw [aup_same, List.map_set]
    · rw [List.length_set]; exact hml
    · rw [aup_ne hlc]; exact hll
  · subst e1
    refine s_cons (s_ret (q_add (qv 2 rfl (q_sl (q_lst (a_cons (q_int (a_cons (q_int (a_nil fun t ht => ?_))))))))))
    have htc : t ≠ c := (ane_none hms ht).symm
    refine o_some (q_len B.len (a_cons (qv 2 rfl (a_nil ⟨_, by rw [aup_ne htc.symm]; exact hms, ?_⟩))))
    refine o_non ⟨_, aup_same, fun q hq => ?_⟩
    obtain ⟨hq1, hqt⟩ := aup_free hq
    have hqc : q ≠ c := (ane_none hms hq1).symm
    rw [cutW_from]
    refine ⟨_, _, show LsA _ (.ref c) _ from (show _ = some (AO.lst (ms.map W.int)) by rw [aup_ne hqc.symm, aup_ne htc.symm]; exact hms), aup_same, ?_, fun p hp => ?_⟩
    · rw [List.length_map, List.length_drop]
      refine Nat.le_trans (m := 1002) ?_ (by decide)
      simp only [List.length_cons, List.length_nil]
      omega
    · have e2 : (ms.map W.int ++ (([.int 5, .int 8] : List W).drop (ms.map W.int).length)) = (ms ++ ([5, 8] : List Int).drop ms.length).map W.int := by
        rw [List.map_append, List.map_drop, List.length_map]; rfl
      rw [e2]
      obtain ⟨hp1, hpq⟩ := aup_free hp
      obtain ⟨hp2, hpt⟩ := aup_free hp1
      have hp0 : ∀ q, G' q = none → G q = none := fun q h => by
        cases hh : G q with
        | none => rfl
        | some o =>
          exfalso
          have hn : q ∉ [l, c, p1] := by
            simp only [List.mem_cons, List.not_mem_nil, or_false, not_or]
            exact ⟨ane_none hh hl0, ane_none hh hc0, ane_none hh h1⟩
          rw [off q hn, hh] at h
          cases h
      refine ⟨_, ?_, k p (ms ++ ([5, 8] : List Int).drop ms.length) (hp0 p hp2) ?_⟩
      · refine Offs.sub1 (l := [p, q, t, l, c, p1]) (Offs.new (Offs.new (Offs.new off))) aup_same fun x hx hxp => ?_
        simp only [List.mem_cons, List.not_mem_nil, or_false] at hx
        rcases hx with h | h | h | h | h | h
        · exact absurd h hxp
        · rw [h]; exact hp0 q (aup_free hq).1
        · rw [h]; exact hp0 t ht
        · rw [h]; exact hl0
        · rw [h]; exact hc0
        · rw [h]; exact h1
      · rw [List.length_append, List.length_drop]
        simp only [List.length_cons, List.length_nil]
        omega
end
end SW
namespace SW
open PySem PySem.Spec L2 AL
/-! ### words -/
def abc : Str := "abcdefghijklmnopqrstuvwxyz"
theorem abc_at {i : Int} (h0 : 0 ≤ i) (h : i < 26) : ∃ c, atI abc.cps.toList i = some c ∧ c < 0x110000 ∧ 97 ≤ c := by
  have l : abc.cps.toList.length = 26 := by decide +kernel
  obtain ⟨j, rfl⟩ : ∃ j : Nat, i = j := ⟨i.toNat, by omega⟩
  have hj : j < abc.cps.toList.length := by omega
  have a : abc.cps.toList.all (fun c => decide (c < 0x110000 ∧ 97 ≤ c)) = true := by decide +kernel
  refine ⟨abc.cps.toList[j], atI_nat (List.getElem?_eq_getElem hj), ?_⟩
  exact of_decide_eq_true (List.all_eq_true.mp a _ (List.getElem_mem hj))
/-- a short text of plain signs -/
def Sm (x : Str) (n : Nat) : Prop := PyData.strOk x = true ∧ x.length ≤ n
theorem Upto.at1 {a q : Addr} {G G' : AH} {o : AO} (h : Upto [a] G G') (e : G q = some o) (n : q ≠ a) : G' q = some o := h q o (by simpa using n) e
/-- small letters -/
def Lw (x : Str) : Prop := ∀ c ∈ x.cps.toList, 97 ≤ c
def one1 (c : Nat) : Str := ⟨#[c]⟩
theorem app_cps (a b : Str) : (a ++ b).cps.toList = a.cps.toList ++ b.cps.toList := by
  show (a.cps ++ b.cps).toList = _
  rw [Array.toList_append]
theorem join_nil_cps' : ∀ (xs : List Str), (Str.join "" xs).cps.toList = (xs.map fun x => x.cps.toList).flatten
  | [] => rfl
  | [x] => by simp [Str.join]
  | x :: y :: xs => by
    have h := join_nil_cps' (y :: xs)
    show ((x ++ "") ++ Str.join "" (y :: xs)).cps.toList = _
    rw [app_cps, app_cps, h]
    simp
    rfl
theorem join_ones (cs : List Nat) : (Txt.join "" (cs.map one1)).cps.toList = cs := by
  rw [show Txt.join "" (cs.map one1) = Str.join "" (cs.map one1) from StrLaws.glued_eq_join _ _, join_nil_cps', List.map_map]
  rw [show ((fun x : Str => x.cps.toList) ∘ one1) = fun c => [c] from rfl]
  induction cs with
  | nil => rfl
  | cons c cs ih => rw [List.map_cons, List.flatten_cons, ih]; rfl
theorem strOk_of {x : Str} (h : ∀ c ∈ x.cps.toList, c < 0x110000) : PyData.strOk x = true := by
  unfold PyData.strOk
  rw [← Array.all_toList, List.all_eq_true]
  exact fun c hc => decide_eq_true (h c hc)
theorem of_strOk {x : Str} (h : PyData.strOk x = true) : ∀ c ∈ x.cps.toList, c < 0x110000 := by
  unfold PyData.strOk at h
  rw [← Array.all_toList, List.all_eq_true] at h
  exact fun c hc => of_decide_eq_true (h c hc)
theorem sm_join {cs : List Nat} {n : Nat} (h : ∀ c ∈ cs, c < 0x110000) (l : cs.length ≤ n) : Sm (Txt.join "" (cs.map one1)) n :=
  ⟨strOk_of (by rw [join_ones]; exact h), by show (Txt.join "" (cs.map one1)).cps.size ≤ n; rw [← Array.length_toList, join_ones]; exact l⟩
theorem ones_len (cs : List Nat) : ((cs.map one1).map (·.length)).sum = cs.length := by
  induction cs with
  | nil => rfl
  | cons c cs ih => rw [List.map_cons, List.map_cons, List.sum_cons, ih, List.length_cons]; show 1 + _ = _; omega
section
variable {P : Program} {w : World} {K : PySem.W.Frag} {mg : Str → Option Value} {base : Heap}
abbrev sWd : Stmt := top 44
theorem sc_wd : FnScope ["box", "letters", "k"] ["box"] (defScope sWd) := ⟨rfl, rfl, rfl, by decide +kernel, rfl, by decide +kernel, by decide +kernel⟩
def spWd : ASp := fun ws G K _ => ∃ (a : Addr) (n : Nat), ws = [.ref a] ∧ BoxAt G a (n + 9) ∧ ∀ x G', Sm x 8 → Lw x → Upto [a] G G' → BoxAt G' a n → K (.str x) G'
theorem ok_wd {f : Addr} {fd : FuncData} (F : Fun K "_law_word" "_law_word" sWd f fd) (B : Bl mg) (CT : Cal P w K mg base "_law_take" 1 ["box", "many"] spTake) : FnOk P w K mg base CX0 2 f fd ["box"] (low ⟨P, w, K⟩ spWd) := by
  refine fnA_of F sc_wd (fun ws G Kc KE ⟨a, n, e, _⟩ => by rw [e]; rfl) fun cdv A outer s H E ws G Kc KE hr ⟨a, n, e, hB, kk⟩ => ?_
  subst e
  refine s_cons (s_set (i := 1) sc_wd.nd (q_str ?_))
  refine SQ.st [some (.ref a), some (.str abc), none] rfl ?_
  refine s_cons (s_ret (q_join (q_str ⟨"", rfl, a_cons (q_lc sc_wd.nd (blkOk_by (N := ["box", "letters", "k"]) (sc := defScope sWd) (own := [("k", 2)]) (by decide +kernel)) (i_range1 rfl B.range (q_add (q_int (q_cal CT hr (a_cons (qv 0 rfl (a_cons (q_int (a_nil ⟨a, n + 8, 8, rfl, hB, by decide, by decide, fun r G1 r0 r1 off hB1 => ?_⟩))))))))))⟩)))
  obtain ⟨m, hm, m1, m8⟩ : ∃ m : Nat, (1 : Int) + r = m ∧ 1 ≤ m ∧ m ≤ 8 := ⟨(1 + r).toNat, by omega, by omega, by omega⟩
  refine ⟨?_, ?_, ⟨fun O hO0 => ?_⟩⟩
  · omega
  · omega
  rw [hm]
  have hOa : O ≠ a := by obtain ⟨_, h, _⟩ := hB1; exact (ane_none h hO0).symm
  refine ⟨fun i G' => ∃ cs : List Nat, cs.length = i ∧ (∀ x ∈ cs, x < 0x110000 ∧ 97 ≤ x) ∧ G' O = some (.lst ((cs.map one1).map W.str)) ∧ BoxAt G' a (n + 8 - i) ∧ Upto [a, O] G1 G', ⟨[], rfl, (fun x h => by cases h), aup_same, hB1.new hO0, Upto.refl.new hO0⟩, fun _ _ _ _ => trivial, fun i x G' hx ⟨cs, hk, hks, hO, hBx, up⟩ => ?_, fun G' ⟨cs, hk, hks, hO, hBx, up⟩ => ?_⟩
  · obtain ⟨hi, rfl⟩ := rng0_item hx
    have hi8 : i < 8 := by omega
    intro s0 H0 C cl fp
    refine n_name (i := 2) sc_wd.nd ?_
    intro s0 H0 C cl fp
    refine ts_nil (ifT ?_)
    intro s0 H0 C cl fp
    refine q_ix (qv 1 rfl (q_cal CT hr (a_cons (qv 0 rfl (a_cons (q_int (a_nil ⟨a, n + 7 - i, 26, rfl, hBx.less (by omega), by decide, by decide, fun r2 G2 s0' s1 off2 hB3 => ?_⟩)))))))
    obtain ⟨c, hc1, hc2⟩ := abc_at s0' s1
    refine ⟨by decide +kernel, c, hc1, (cs.map one1).map W.str, (Upto.off off2).at1 hO hOa, ?_, cs ++ [c], by rw [List.length_append, hk]; rfl, fun y hy => ?_, ?_, ?_, ?_⟩
    · rw [List.length_map, List.length_map, hk]; exact Nat.lt_trans hi8 (by decide)
    · rcases List.mem_append.mp hy with h | h
      · exact hks y h
      · rw [List.mem_singleton] at h; subst h; exact hc2
    · rw [aup_same, List.map_append, List.map_append]; rfl
    · exact (hB3.old hOa.symm).less (by omega)
    · exact (up.trans ((Upto.off off2).more (by simp))).put (by simp)
  · rw [rngW_length] at hk hBx
    have hml : ((m : Int)).toNat = m := by omega
    rw [hml] at hk hBx
    refine a_nil ⟨cs.map one1, hO, ?_, _, Sub.refl, kk _ _ (sm_join (fun c hc => (hks c hc).1) (by omega)) (fun c hc => (hks c (by rw [join_ones] at hc; exact hc)).2) ?_ (hBx.less (by omega))⟩
    · rw [ones_len, show ("" : Str).length = 0 from rfl]; exact Nat.le_trans (show cs.length + _ * 0 ≤ 100 by omega) (by decide)
    · refine Upto.trans (.off off) fun q o hq hqo => up q o ?_ hqo
      simp only [List.mem_cons, List.not_mem_nil, or_false, not_or]
      exact ⟨fun z => hq (by simp [z]), ane_none hqo hO0⟩
def lett (i : Nat) : Nat := abc.cps.toList.getD (i % 26) 0
theorem lett_at {z : Int} {i : Nat} (h : z = (i : Int)) : atI abc.cps.toList (z % 26) = some (lett i) := by
  have l : abc.cps.toList.length = 26 := by decide +kernel
  subst h
  have e : (i : Int) % 26 = ((i % 26 : Nat) : Int) := by omega
  rw [e]
  have hj : i % 26 < abc.cps.toList.length := by omega
  refine atI_nat ?_
  unfold lett
  rw [List.getD, List.getElem?_eq_getElem hj]; rfl
theorem lett_lt (i : Nat) : lett i < 0x110000 := by
  obtain ⟨c, h1, h2⟩ := abc_at (i := (i : Int) % 26) (Int.emod_nonneg _ (by decide)) (Int.emod_lt_of_pos _ (by decide))
  rw [lett_at rfl] at h1; cases h1; exact h2.1
theorem lett_inj {i j : Nat} (h : lett i = lett j) : i % 26 = j % 26 := by
  have l : abc.cps.toList.length = 26 := by decide +kernel
  have n : abc.cps.toList.Nodup := by decide +kernel
  have hi : i % 26 < abc.cps.toList.length := by omega
  have hj : j % 26 < abc.cps.toList.length := by omega
  unfold lett at h
  simp only [List.getD, List.getElem?_eq_getElem hi, List.getElem?_eq_getElem hj, Option.getD_some] at h
  have nd := List.pairwise_iff_getElem.mp n
  rcases Nat.lt_trichotomy (i % 26) (j % 26) with q | q | q
  · exact absurd h (nd _ _ hi hj q)
  · exact q
  · exact absurd h.symm (nd _ _ hj hi q)
def wdOf (f : Nat) (rest : Str) (k : Nat) : Str := one1 (lett (f + 7 * k)) ++ one1 (lett (k / 26 * 5 + f)) ++ rest
theorem wdOf_cps (f : Nat) (rest : Str) (k : Nat) : (wdOf f rest k).cps.toList = lett (f + 7 * k) :: lett (k / 26 * 5 + f) :: rest.cps.toList := by
  unfold wdOf
  rw [app_cps, app_cps]; rfl
theorem wdOf_sm {f : Nat} {rest : Str} {n : Nat} (h : Sm rest n) (k : Nat) : Sm (wdOf f rest k) (n + 2) := by
  refine ⟨strOk_of fun c hc => ?_, ?_⟩
  · rw [wdOf_cps] at hc
    rcases List.mem_cons.mp hc with rfl | hc
    · exact lett_lt _
    rcases List.mem_cons.mp hc with rfl | hc
    · exact lett_lt _
    · exact of_strOk h.1 c hc
  · have := h.2
    show (wdOf f rest k).cps.size ≤ n + 2
    rw [← Array.length_toList, wdOf_cps]
    have e : rest.cps.toList.length = rest.length := by rw [Array.length_toList]; rfl
    simp only [List.length_cons]
    omega
theorem wdOf_inj {f : Nat} {rest : Str} {i j : Nat} (hi : i < 676) (hj : j < 676) (h : wdOf f rest i = wdOf f rest j) : i = j := by
  have e := congrArg (fun x : Str => x.cps.toList) h
  simp only [wdOf_cps] at e
  have h1 := lett_inj (List.cons.inj e).1
  have h2 := lett_inj (List.cons.inj (List.cons.inj e).2).1
  have h3 : i % 26 = j % 26 := by omega
  have h4 : i / 26 < 26 := Nat.div_lt_of_lt_mul (by omega)
  have h5 : j / 26 < 26 := Nat.div_lt_of_lt_mul (by omega)
  have e1 := Nat.div_add_mod i 26
  have e2 := Nat.div_add_mod j 26
  generalize i / 26 = a at h2 h4 e1
  generalize j / 26 = b at h2 h5 e2
  have h6 : a = b := by omega
  omega
theorem wds_nodup (f : Nat) (rest : Str) {m : Nat} (hm : m ≤ 676) : ((List.range m).map (wdOf f rest)).Nodup := by
  refine List.pairwise_map.mpr (List.nodup_range.imp_of_mem fun {i j} hi hj n h => n ?_)
  rw [List.mem_range] at hi hj
  exact wdOf_inj (by omega) (by omega) h
abbrev sWs : Stmt := top 45
theorem sc_ws : FnScope ["box", "many", "letters", "found", "rest", "first", "k", "one"] ["box", "many"] (defScope sWs) := ⟨rfl, rfl, rfl, by decide +kernel, rfl, by decide +kernel, by decide +kernel⟩
def spWs : ASp := fun ws G K _ => ∃ (a : Addr) (n m : Nat), ws = [.ref a, .int m] ∧ m ≤ 676 ∧ BoxAt G a (n + 8) ∧ ∀ (xs : List Str) G' p, xs.length = m → xs.Nodup → (∀ x ∈ xs, Sm x 8) → Upto [a] G G' → BoxAt G' a n → p ≠ a → G p = none → G' p = some (.lst (xs.map W.str)) → K (.ref p) G'
theorem ok_ws {f : Addr} {fd : FuncData} (F : Fun K "_law_words" "_law_words" sWs f fd) (B : Bl mg) (CT : Cal P w K mg base "_law_take" 1 ["box", "many"] spTake) : FnOk P w K mg base CX0 2 f fd ["box", "many"] (low ⟨P, w, K⟩ spWs) := by
  refine fnA_of F sc_ws (fun ws G Kc KE ⟨a, n, m, e, _⟩ => by rw [e]; rfl) fun cdv A outer s H E ws G Kc KE hr ⟨a, n, m, e, hm, hB, kk⟩ => ?_
  subst e
  refine s_cons (s_asg (q_tup (a_cons (q_str (a_cons (q_lst (a_nil fun F0 hF0 => ?_)))))))
  refine a_nil (g_tup rfl (gs_cons (g_name (i := 2) sc_ws.nd (gs_cons (g_name (i := 3) sc_ws.nd (gs_nil ?_))))))
  refine SQ.st [some (.ref a), some (.int m), some (.str abc), some (.ref F0), none, none, none, none] rfl ?_
  have hFa : F0 ≠ a := by obtain ⟨_, h, _⟩ := hB; exact (ane_none h hF0).symm
  have hB0 := hB.new (o := .lst []) hF0
  have up0 : Upto [a] G (aup G F0 (.lst [])) := Upto.refl.new hF0
  have hF : (aup G F0 (.lst [])) F0 = some (.lst []) := aup_same
  generalize aup G F0 (.lst []) = G0 at hB0 up0 hF ⊢
  -- rest
  refine s_cons (s_set (i := 4) sc_ws.nd (q_join (q_str ⟨"", rfl, a_cons (q_lc sc_ws.nd (blkOk_by (N := ["box", "many", "letters", "found", "rest", "first", "k", "one"]) (sc := defScope sWs) (own := [("k", 6)]) (by decide +kernel)) (i_range1 rfl B.range (q_cal CT hr (a_cons (qv 0 rfl (a_cons (q_int (a_nil ⟨a, n + 7, 7, rfl, hB0, by decide, by decide, fun r G1 r0 r1 off hB1 => ?_⟩))))))))⟩)))
  obtain ⟨l, hl, l6⟩ : ∃ l : Nat, r = l ∧ l ≤ 6 := ⟨r.toNat, by omega, by omega⟩
  subst hl
  refine ⟨by omega, by omega, ⟨fun O hO0 => ?_⟩⟩
  have hF1 := (Upto.off off : Upto [a] _ _).at1 hF hFa
  have up1 := up0.trans (.off off)
  have hOa : O ≠ a := by obtain ⟨_, h, _⟩ := hB1; exact (ane_none h hO0).symm
  clear hF up0 hB0 off
  refine ⟨fun i G' => ∃ cs : List Nat, cs.length = i ∧ (∀ x ∈ cs, x < 0x110000) ∧ G' O = some (.lst ((cs.map one1).map W.str)) ∧ BoxAt G' a (n + 7 - i) ∧ Upto [a, O] G1 G', ⟨[], rfl, (fun x h => by cases h), aup_same, hB1.new hO0, Upto.refl.new hO0⟩, fun _ _ _ _ => trivial, fun i x G' hx ⟨cs, hk, hks, hO, hBx, up⟩ => ?_, fun G' ⟨cs, hk, hks, hO, hBx, up⟩ => ?_⟩
  · obtain ⟨hi, rfl⟩ := rng0_item hx
    have hi8 : i < 6 := by omega
    intro s0 H0 C cl fp
    refine n_name (i := 6) sc_ws.nd ?_
    intro s0 H0 C cl fp
    refine ts_nil (ifT ?_)
    intro s0 H0 C cl fp
    refine q_ix (qv 2 rfl (q_cal CT hr (a_cons (qv 0 rfl (a_cons (q_int (a_nil ⟨a, n + 6 - i, 26, rfl, hBx.less (by omega), by decide, by decide, fun r2 G2 s0' s1 off2 hB3 => ?_⟩)))))))
    obtain ⟨c, hc1, hc2⟩ := abc_at s0' s1
    refine ⟨by decide +kernel, c, hc1, (cs.map one1).map W.str, (Upto.off off2 : Upto [a] _ _).at1 hO hOa, ?_, cs ++ [c], by rw [List.length_append, hk]; rfl, fun y hy => ?_, ?_, ?_, ?_⟩
    · rw [List.length_map, List.length_map, hk]; exact Nat.lt_trans hi8 (by decide)
    · rcases List.mem_append.mp hy with h | h
      · exact hks y h
      · rw [List.mem_singleton] at h; subst h; exact hc2.1
    · rw [aup_same, List.map_append, List.map_append]; rfl
    · exact (hB3.old hOa.symm).less (by omega)
    · exact (up.trans ((Upto.off off2).more (by simp))).put (by simp)
  rw [rngW_length] at hk hBx
  have hml : ((l : Int)).toNat = l := by omega
  rw [hml] at hk hBx
  refine a_nil ⟨cs.map one1, hO, ?_, ?_⟩
  · rw [ones_len, show ("" : Str).length = 0 from rfl]; exact Nat.le_trans (show cs.length + _ * 0 ≤ 100 by omega) (by decide)
  have hR : Sm (Txt.join "" (cs.map one1)) 6 := sm_join hks (by omega)
  generalize Txt.join "" (cs.map one1) = rest at hR ⊢
  have up2 : Upto [a] G G' := up1.trans fun q o hq hqo => up q o (by
    simp only [List.mem_cons, List.not_mem_nil, or_false, not_or]
    exact ⟨fun z => hq (by simp [z]), ane_none hqo hO0⟩) hqo
  have hF2 : G' F0 = some (.lst []) := up F0 _ (by simp only [List.mem_cons, List.not_mem_nil, or_false, not_or]; exact ⟨hFa, ane_none hF1 hO0⟩) hF1
  have hB2 : BoxAt G' a (n + 1) := hBx.less (by omega)
  clear hBx up up1 hB1 hF1 hO hO0
  -- first
  refine s_cons (s_set (i := 5) sc_ws.nd (q_cal CT hr (a_cons (qv 0 rfl (a_cons (q_int (a_nil ⟨a, n, 26, rfl, hB2, by decide, by decide, fun r G2 r0 r1 off hB3 => ?_⟩)))))))
  obtain ⟨f1, hf1, f26⟩ : ∃ f1 : Nat, r = f1 ∧ f1 < 26 := ⟨r.toNat, by omega, by omega⟩
  subst hf1
  have hF3 := (Upto.off off : Upto [a] _ _).at1 hF2 hFa
  have up3 := up2.trans (.off off)
  clear off hF2 up2 hB2
  refine SQ.st [some (.ref a), some (.int m), some (.str abc), some (.ref F0), some (.str rest), some (.int f1), none, none] rfl ?_
  refine s_cons (s_for PassesOwn.never rfl (i_range1 rfl B.range (qv 1 rfl ⟨by omega, by omega, ?_⟩)))
  refine ⟨fun i ρ' G' => ∃ v v', ρ' = [some (.ref a), some (.int m), some (.str abc), some (.ref F0), some (.str rest), some (.int f1), v, v'] ∧ G' F0 = some (.lst (((List.range i).map (wdOf f1 rest)).map W.str)) ∧ BoxAt G' a n ∧ Upto [a] G G', ⟨none, none, rfl, hF3, hB3, up3⟩, fun _ _ _ _ _ => trivial, fun i x ρ' G' hx ⟨v, v', e1, hF, hBx, up⟩ => ?_, fun ρ' G' ⟨v, v', e1, hF, hBx, up⟩ => ?_⟩
  · obtain ⟨hi, rfl⟩ := rng0_item hx
    have hi26 : i < 676 := by omega
    subst e1
    refine g_name (i := 6) sc_ws.nd ?_
    refine SQ.st [some (.ref a), some (.int m), some (.str abc), some (.ref F0), some (.str rest), some (.int f1), some (.int i), v'] rfl ?_
    refine s_cons (s_set (i := 7) sc_ws.nd (q_ix (qv 2 rfl (q_mod (q_add (qv 5 rfl (q_mul (q_int (qv 6 rfl ⟨mulok (by decide) (by decide), ?_⟩)))))))))
    refine q_int ⟨by show (0 : Int) < 26; decide, ?_⟩
    refine ⟨by decide +kernel, lett (f1 + 7 * i), lett_at (by show (f1 : Int) + 7 * (i : Int) = _; omega), ?_⟩
    refine SQ.st [some (.ref a), some (.int m), some (.str abc), some (.ref F0), some (.str rest), some (.int f1), some (.int i), some (.str (one1 (lett (f1 + 7 * i))))] rfl ?_
    refine s_cons (s_expr (q_append (qv 3 rfl ⟨F0, _, rfl, hF, ?_⟩)))
    refine a_cons (q_add (q_add (qv 7 rfl (q_ix (qv 2 rfl (q_mod (q_add (q_mul (q_fdiv (qv 6 rfl (q_int ⟨⟨by decide, by decide⟩, ?_⟩)))))))))))
    refine q_int ⟨mulokR (by decide) (by decide), ?_⟩
    refine qv 5 rfl ?_
    refine q_int ⟨by show (0 : Int) < 26; decide, ?_⟩
    refine ⟨by decide +kernel, lett (i / 26 * 5 + f1), lett_at (by show (i : Int) / 26 * 5 + (f1 : Int) = _; omega), ?_⟩
    refine ⟨by show (1 : Nat) + 1 ≤ sizeLine; decide, ?_⟩
    refine qv 4 rfl ⟨?_, ?_⟩
    · have e : (one1 (lett (f1 + 7 * i)) ++ one1 (lett (i / 26 * 5 + f1))).length = 2 := by
        show (_ : Str).cps.size = 2
        rw [← Array.length_toList, app_cps]; rfl
      have := hR.2
      exact Nat.le_trans (show _ ≤ 100 by rw [show ({ cps := #[lett (i / 26 * 5 + f1)] } : Str) = one1 (lett (i / 26 * 5 + f1)) from rfl, e]; omega) (by decide)
    refine a_nil ⟨_, hF, by simp only [List.length_map, List.length_range]; exact Nat.lt_trans hi26 (by decide), ?_⟩
    refine s_nil ⟨_, _, rfl, ?_, hBx.old hFa.symm, up.putN hF0⟩
    rw [aup_same, List.range_succ, List.map_append, List.map_append]; rfl
  · subst e1
    refine s_cons (s_ret (qv 3 rfl ⟨G', Sub.refl, kk ((List.range m).map (wdOf f1 rest)) G' F0 (by simp) (wds_nodup f1 rest hm) (fun x hx => ?_) up hBx hFa hF0 ?_⟩))
    · obtain ⟨k, _, rfl⟩ := List.mem_map.mp hx
      exact wdOf_sm hR k
    · rw [rngW_length] at hF; exact hF
end
end SW
namespace SW
open PySem PySem.Spec L2 AL
/-! ### plain: names in a row -/
def ordN (M : Nat) (rev : Bool) (p : Nat) : Nat := if rev = true then M - 1 - p else p + 1
def atN (M : Nat) (rev : Bool) (i : Nat) : Nat := if rev = true then 2 * M - 2 - i else M + i
def tsN (nm : List Str) (wd : Str) (z : Int) (rev : Bool) : List Tm := nm.map Tm.name ++ (List.range (nm.length - 1)).map (fun p => Tm.of wd [ordN nm.length rev p]) ++ [Tm.num z]
def ldN (M : Nat) (rev : Bool) (k : Nat) : Nat := if k < M then k else if k = 2 * M - 1 then M - 1 else ordN M rev (k - M) - 1
def lsN (M : Nat) (rev : Bool) : List Nat := (List.range (2 * M)).map (ldN M rev)
structure RowN (nm : List Str) (wd : Str) (z : Int) : Prop where
  two : 2 ≤ nm.length
  few : nm.length ≤ 99
  nd : nm.Nodup
  sm : ∀ x ∈ nm, Sm x 8
  lw : Lw wd
  wd : Sm wd 8
  z : -10 < z ∧ z < 10
section
variable {nm : List Str} {wd : Str} {z : Int} {rev : Bool}
theorem ordN_lt {M p : Nat} (h : p < M - 1) : 1 ≤ ordN M rev p ∧ ordN M rev p < M := by
  unfold ordN; split <;> omega
theorem atN_lt {M i : Nat} (h : i < M - 1) : M ≤ atN M rev i ∧ atN M rev i < 2 * M - 1 ∧ ordN M rev (atN M rev i - M) = i + 1 := by
  unfold atN ordN; split <;> refine ⟨by omega, by omega, by omega⟩
theorem at_ord {M p : Nat} (h : p < M - 1) : atN M rev (ordN M rev p - 1) = M + p := by
  unfold atN ordN; split <;> omega
theorem tsN_len (R : RowN nm wd z) : (tsN nm wd z rev).length = 2 * nm.length := by
  have := R.two
  unfold tsN
  rw [List.length_append, List.length_append, List.length_map, List.length_map, List.length_range, List.length_singleton]; omega
theorem tsN_name {i : Nat} {x : Str} (h : nm[i]? = some x) : (tsN nm wd z rev)[i]? = some (.name x) := by
  have hl := (List.getElem?_eq_some_iff.mp h).1
  unfold tsN
  rw [List.getElem?_append_left (by rw [List.length_append, List.length_map]; omega), List.getElem?_append_left (by rw [List.length_map]; exact hl), List.getElem?_map, h]; rfl
theorem tsN_of {p : Nat} (h : p < nm.length - 1) : (tsN nm wd z rev)[nm.length + p]? = some (.of wd [ordN nm.length rev p]) := by
  unfold tsN
  rw [List.getElem?_append_left (by rw [List.length_append, List.length_map, List.length_map, List.length_range]; omega), List.getElem?_append_right (by rw [List.length_map]; omega), List.length_map, show nm.length + p - nm.length = p by omega, List.getElem?_map, List.getElem?_range h]; rfl
theorem tsN_num (R : RowN nm wd z) : (tsN nm wd z rev)[2 * nm.length - 1]? = some (.num z) := by
  have := R.two
  have hl : (nm.map Tm.name ++ (List.range (nm.length - 1)).map (fun p => Tm.of wd [ordN nm.length rev p])).length = 2 * nm.length - 1 := by
    rw [List.length_append, List.length_map, List.length_map, List.length_range]; omega
  unfold tsN
  rw [List.getElem?_append_right (by omega), hl, Nat.sub_self]; rfl
theorem tsN_what (R : RowN nm wd z) {k : Nat} (hk : k < 2 * nm.length) : (k < nm.length ∧ ∃ x, nm[k]? = some x ∧ tmAt (tsN nm wd z rev) k = .name x) ∨ (k = 2 * nm.length - 1 ∧ tmAt (tsN nm wd z rev) k = .num z) ∨ ∃ p, p < nm.length - 1 ∧ k = nm.length + p ∧ tmAt (tsN nm wd z rev) k = .of wd [ordN nm.length rev p] := by
  have := R.two
  by_cases c : k < nm.length
  · obtain ⟨x, hx⟩ : ∃ x, nm[k]? = some x := ⟨_, List.getElem?_eq_getElem c⟩
    exact .inl ⟨c, x, hx, tmAt_of (tsN_name hx)⟩
  · by_cases c2 : k = 2 * nm.length - 1
    · exact .inr (.inl ⟨c2, tmAt_of (by rw [c2]; exact tsN_num R)⟩)
    · refine .inr (.inr ⟨k - nm.length, by omega, by omega, tmAt_of ?_⟩)
      have := tsN_of (nm := nm) (wd := wd) (z := z) (rev := rev) (p := k - nm.length) (by omega)
      rw [show nm.length + (k - nm.length) = k by omega] at this
      exact this
theorem tsN_ok (R : RowN nm wd z) : TsOk (tsN nm wd z rev) := by
  have := R.two
  have len := tsN_len (rev := rev) R
  have key : ∀ i w ks, (tsN nm wd z rev)[i]? = some (Tm.of w ks) → ∃ p, p < nm.length - 1 ∧ i = nm.length + p ∧ ks = [ordN nm.length rev p] ∧ w = wd := fun i w ks h => by
    have hl := (List.getElem?_eq_some_iff.mp h).1
    have e := tmAt_of h
    rcases tsN_what (rev := rev) R (k := i) (by omega) with ⟨_, x, _, q⟩ | ⟨_, q⟩ | ⟨p, h1, h2, q⟩
    · rw [q] at e; cases e
    · rw [q] at e; cases e
    · rw [q] at e; cases e; exact ⟨p, h1, h2, rfl, rfl⟩
  refine ⟨fun i w ks h k hk => ?_, fun i w ks h => ?_, by have := R.few; omega⟩
  · obtain ⟨p, h1, h2, rfl, _⟩ := key i w ks h
    rw [List.mem_singleton] at hk
    have := ordN_lt (rev := rev) h1
    omega
  · obtain ⟨p, h1, h2, rfl, _⟩ := key i w ks h
    exact Nat.le_succ_of_le (Nat.le_succ_of_le (Nat.le_succ 1))
theorem lsN_len (M : Nat) : (lsN M rev).length = 2 * M := by unfold lsN; rw [List.length_map, List.length_range]
theorem lsN_at {M k : Nat} (h : k < 2 * M) : Lf (lsN M rev) k = ldN M rev k := by
  unfold lsN
  rw [Lf, getD_map (by rw [List.length_range]; exact h), getD_range h]
theorem ldN_name {M k : Nat} (h : k < M) : ldN M rev k = k := if_pos h
theorem ldN_num {M : Nat} (h : 2 ≤ M) : ldN M rev (2 * M - 1) = M - 1 := by
  unfold ldN; rw [if_neg (by omega), if_pos rfl]
theorem ldN_of {M p : Nat} (h : p < M - 1) : ldN M rev (M + p) = ordN M rev p - 1 := by
  unfold ldN; rw [if_neg (by omega), if_neg (by omega), show M + p - M = p by omega]
theorem ldN_at {M i : Nat} (h : i < M - 1) : ldN M rev (atN M rev i) = i := by
  obtain ⟨h1, h2, h3⟩ := atN_lt (rev := rev) h
  unfold ldN; rw [if_neg (by omega), if_neg (by omega), h3]; rfl
theorem ldN_lt {M k : Nat} (h2 : 2 ≤ M) (h : k < 2 * M) : ldN M rev k < M ∧ ldN M rev k ≤ k := by
  unfold ldN
  split
  · omega
  · split
    · omega
    · have := ordN_lt (rev := rev) (M := M) (p := k - M) (by omega)
      omega
theorem lsN_good (R : RowN nm wd z) : Good (tsN nm wd z rev).length (lsN nm.length rev) := by
  have h2 := R.two
  rw [tsN_len R]
  refine ⟨lsN_len _, fun k hk => ?_, fun k hk => ?_⟩
  · show Lf _ k ≤ k
    rw [lsN_at hk]; exact (ldN_lt h2 hk).2
  · show Lf _ (Lf _ k) = Lf _ k
    have := (ldN_lt (rev := rev) h2 hk).1
    rw [lsN_at hk, lsN_at (by omega), ldN_name this]
theorem lsN_ok (R : RowN nm wd z) : LsOk (tsN nm wd z rev) (lsN nm.length rev) := ⟨tsN_ok R, lsN_good R⟩
theorem rowN_closed (R : RowN nm wd z) {es : List (Nat × Nat)} (h1 : ∀ i, i < nm.length - 1 → (i, atN nm.length rev i) ∈ es) (h2 : (2 * nm.length - 1, nm.length - 1) ∈ es) (hall : ∀ e ∈ es, (∃ i, i < nm.length - 1 ∧ e = (i, atN nm.length rev i)) ∨ e = (2 * nm.length - 1, nm.length - 1)) : closedM (tsN nm wd z rev) es = lsN nm.length rev := by
  have h2' := R.two
  have len := tsN_len (rev := rev) R
  refine Closed.one (closed_ok (tsN_ok R).wf fun e he => ?_) ⟨lsN_good R, fun e he => ?_, fun i j t u hi hj h => ?_, fun Rl cg k hk => ?_⟩
  · rcases hall e he with ⟨i, hi, rfl⟩ | rfl
    · have := atN_lt (rev := rev) hi
      show i < _ ∧ atN _ _ i < _
      omega
    · show 2 * nm.length - 1 < _ ∧ nm.length - 1 < _
      omega
  · rcases hall e he with ⟨i, hi, rfl⟩ | rfl
    · have := atN_lt (rev := rev) hi
      show Lf _ i = Lf _ (atN _ _ i)
      rw [lsN_at (by omega), lsN_at (by omega), ldN_name (by omega), ldN_at hi]
    · show Lf _ (2 * nm.length - 1) = Lf _ (nm.length - 1)
      rw [lsN_at (by omega), lsN_at (by omega), ldN_num h2', ldN_name (by omega)]
  · have li := (List.getElem?_eq_some_iff.mp hi).1
    have lj := (List.getElem?_eq_some_iff.mp hj).1
    rw [len] at li lj
    have ei := tmAt_of hi
    have ej := tmAt_of hj
    show Lf _ i = Lf _ j
    rcases tsN_what (rev := rev) R li with ⟨a1, x, a2, q⟩ | ⟨a1, q⟩ | ⟨p, a1, a2, q⟩ <;> rcases tsN_what (rev := rev) R lj with ⟨b1, y, b2, q'⟩ | ⟨b1, q'⟩ | ⟨p', b1, b2, q'⟩ <;> rw [q] at ei <;> rw [q'] at ej <;> subst ei <;> subst ej
    · cases h
      have : i = j := by
        have e1 := (List.getElem?_eq_some_iff.mp a2)
        have e2 := (List.getElem?_eq_some_iff.mp b2)
        exact (List.getElem_inj (h₀ := e1.1) (h₁ := e2.1) R.nd).mp (e1.2.trans e2.2.symm)
      rw [this]
    · cases h
    · cases h
    · cases h
    · rw [a1, b1]
    · cases h
    · cases h
    · cases h
    · have h3 : [Lf (lsN nm.length rev) (ordN nm.length rev p)] = [Lf (lsN nm.length rev) (ordN nm.length rev p')] := by injection h
      have h4 := (List.cons.inj h3).1
      have o1 := ordN_lt (rev := rev) a1
      have o2 := ordN_lt (rev := rev) b1
      rw [lsN_at (by omega), lsN_at (by omega), ldN_name o1.2, ldN_name o2.2] at h4
      rw [a2, b2, lsN_at (by omega), lsN_at (by omega), ldN_of a1, ldN_of b1, h4]
  · show Rl k (Lf _ k)
    rw [len] at hk
    rw [lsN_at hk]
    rcases tsN_what (rev := rev) R hk with ⟨a1, x, a2, q⟩ | ⟨a1, q⟩ | ⟨p, a1, a2, q⟩
    · rw [ldN_name a1]; exact cg.refl k
    · rw [a1, ldN_num h2']; exact cg.edge _ h2
    · have o1 := ordN_lt (rev := rev) a1
      rw [a2, ldN_of a1]
      have := cg.edge _ (h1 (ordN nm.length rev p - 1) (by omega))
      rw [at_ord a1] at this
      exact cg.symm _ _ this
end
end SW
namespace SW
open PySem PySem.Spec L2 AL
section
variable {P : Program} {w : World} {K : PySem.W.Frag} {mg : Str → Option Value} {base : Heap}
/-! ### _law_case of k85 -/
abbrev sCase : Stmt := top 46
abbrev nCase : List Str := ["box", "first", "great", "word", "many", "number", "terms", "order", "at", "one", "place", "i"]
theorem sc_case : FnScope nCase ["box", "first"] (defScope sCase) := ⟨rfl, rfl, rfl, by decide +kernel, rfl, by decide +kernel, by decide +kernel⟩
def atI' (M : Nat) (rev : Bool) : Nat → Option W := fun i => if i < M - 1 then some (.int (atN M rev i : Nat)) else none
def spCase : ASp := fun ws G K _ => ∃ (a : Addr) (n : Nat) (fb : Bool), ws = [.ref a, .bl fb] ∧ BoxAt G a (n + 40) ∧ ∀ (nm : List Str) (wd : Str) (z : Int) (rev : Bool) (d : Addr) (kws : List (Key × W)) (G' : AH), Upto [a] G G' → BoxAt G' a n → G d = none → d ≠ a → G' d = some (.dK kws) → DI nm.length kws (atI' nm.length rev) → kws.length = nm.length - 1 → RowN nm wd z →
  K (.tup [.lst (tW (tsN nm wd z rev)), .ref d, .str wd, .int z]) G'
theorem Upto.boxN {a q : Addr} {G : AH} {n : Nat} (h : BoxAt G a n) (hq : G q = none) : a ≠ q := fun z => by
  obtain ⟨B, hB, _⟩ := h
  subst z; rw [hB] at hq; cases hq
theorem fInt_bl {b : Bool} {G : AH} {Q : W → AH → Prop} (h : Q (.int (if b = true then 1 else 0)) G) : fInt [.bl b] G Q := h
theorem rng1W (m : Nat) : rngW 1 1 m = nW ((List.range m).map fun p => p + 1) := by
  refine List.ext_getElem? fun i => ?_
  cases e : (rngW 1 1 m)[i]? with
  | none =>
    have := List.getElem?_eq_none_iff.mp e
    rw [rngW_length] at this
    rw [List.getElem?_eq_none (by rw [nW_length, List.length_map, List.length_range]; exact this)]
  | some x =>
    obtain ⟨hi, rfl⟩ := rng_item e
    unfold nW
    rw [List.getElem?_map, List.getElem?_map, List.getElem?_range hi]
    show some (W.int (1 + (i : Nat) * 1)) = some (W.int ((i + 1 : Nat) : Int))
    congr 2; omega
theorem ord_rev (m : Nat) : ((List.range m).map fun p => p + 1).reverse = (List.range m).map (ordN (m + 1) true) := by
  refine List.ext_getElem (by simp) fun i h1 h2 => ?_
  have hi : i < m := by simpa using h2
  rw [List.getElem_reverse, List.getElem_map, List.getElem_map, List.getElem_range, List.getElem_range]
  simp only [List.length_map, List.length_range]
  unfold ordN
  rw [if_pos rfl]; omega
theorem ok_case {f : Addr} {fd : FuncData} (F : Fun K "_law_case" "_law_case" sCase f fd) (B : Bl mg) (CT : Cal P w K mg base "_law_take" 1 ["box", "many"] spTake) (CW : Cal P w K mg base "_law_word" 2 ["box"] spWd) (CS : Cal P w K mg base "_law_words" 2 ["box", "many"] spWs) : FnOk P w K mg base CX0 3 f fd ["box", "first"] (low ⟨P, w, K⟩ spCase) := by
  refine fnA_of F sc_case (fun ws G Kc KE ⟨_, _, _, e, _⟩ => by rw [e]; rfl) fun cdv A outer s H E ws G Kc KE hr ⟨a, n, fb, e, hB, kk⟩ => ?_
  subst e
  have hr1 : Room 1 (A.deeper (PyProof.Rows.envOfC "_law_case" (defScope sCase) s.heap.objs.size f cdv)) := hr.mono (by decide)
  have szl : sizeLine = 16777216 := rfl
  have sm_neg : Sm "neg" 8 := ⟨by decide +kernel, by show 3 ≤ 8; decide⟩
  refine s_cons (s_cut (P := fun ρ2 G2 => ∃ gb wd, ρ2 = [some (.ref a), some (.bl fb), some (.bl gb), some (.str wd), none, none, none, none, none, none, none, none] ∧ (Sm wd 8 ∧ Lw wd) ∧ BoxAt G2 a (n + 20) ∧ Upto [a] G G2) ?_ ?_)
  · refine s_asg (q_tup (a_cons (q_and (q_eq (u64 hr) (q_cal CT hr1 (a_cons (qv 0 rfl (a_cons (q_int (a_nil ⟨a, n + 39, 4, rfl, hB.less (by omega), by decide, by decide, fun z1 G1 _ _ off1 hB1 => q_int ?_⟩))))))))))
    have sec : ∀ (gb : Bool) {Kq : W → AH → Prop}, (∀ wd G3, (Sm wd 8 ∧ Lw wd) → BoxAt G3 a (n + 20) → Upto [a] G G3 → Kq (.str wd) G3) → EQ (cxOf CX0 P w K mg base nCase "_law_case" (defScope sCase) f cdv A outer s H E).nox (match defBody sCase with | .Assign _ (.Tuple [_, e] _ _) _ :: _ => e | _ => .Constant .none 0 ⟨0, 0, 0, 0⟩) (startW nCase [.ref a, .bl fb]) G1 Kq := fun gb {Kq} h => by
      refine q_if (b_eq (u64 hr) (q_cal CT hr1 (a_cons (qv 0 rfl (a_cons (q_int (a_nil ⟨a, n + 38, 2, rfl, hB1.less (by omega), by decide, by decide, fun z2 G2 _ _ off2 hB2 => q_int ?_⟩)))))))
      have up2 := (Upto.off off1 : Upto [a] _ _).trans (.off off2)
      refine ifB_of (fun _ => q_str (h _ _ ⟨sm_neg, by unfold Lw; decide +kernel⟩ (hB2.less (by omega)) up2)) (fun _ => ?_)
      exact q_cal CW hr (a_cons (qv 0 rfl (a_nil ⟨a, n + 29, rfl, hB2.less (by omega), fun x G3 hx hlw up3 hB3 => h _ _ ⟨hx, hlw⟩ (hB3.less (by omega)) (up2.trans up3)⟩)))
    refine ifB_of (fun _ => q_one (qv 1 rfl (a_cons (sec fb fun wd G3 h1 h2 h3 => ?_)))) (fun _ => a_cons (sec false fun wd G3 h1 h2 h3 => ?_))
    · exact a_nil (g_tup rfl (gs_cons (g_name (i := 2) sc_case.nd (gs_cons (g_name (i := 3) sc_case.nd (gs_nil ⟨fb, wd, rfl, h1, h2, h3⟩))))))
    · exact a_nil (g_tup rfl (gs_cons (g_name (i := 2) sc_case.nd (gs_cons (g_name (i := 3) sc_case.nd (gs_nil ⟨false, wd, rfl, h1, h2, h3⟩))))))
  rintro ρ2 G2 ⟨gb, wd, rfl, hwd, hB2, up2⟩
  -- many
  refine s_cons (s_set (i := 4) sc_case.nd (q_add (q_int (q_cal CT hr1 (a_cons (qv 0 rfl (a_cons (q_ix (q_lstV (a_cons (q_int (a_cons (q_int (a_nil (q_int1 B.int (a_cons (qv 2 rfl (a_nil ?_))))))))))))))))))
  have hsel : ∃ mn : Int, atI [W.int 39, W.int 98] (if gb = true then 1 else 0) = some (.int mn) ∧ 0 < mn ∧ mn ≤ 98 := by
    cases gb with
    | true => exact ⟨98, rfl, by decide, by decide⟩
    | false => exact ⟨39, rfl, by decide, by decide⟩
  obtain ⟨mn, hmn, mn0, mn1⟩ := hsel
  refine fInt_bl ?_
  refine fIx_ls (xs := [W.int 39, W.int 98]) rfl hmn (a_nil ⟨a, n + 19, mn, rfl, hB2.less (by omega), mn0, by omega, fun z3 G3 y0 y1 off3 hB3 => ?_⟩)
  have up3 := up2.trans (.off off3)
  obtain ⟨M, hM, M2, M99⟩ : ∃ M : Nat, 2 + z3 = M ∧ 2 ≤ M ∧ M ≤ 99 := ⟨(2 + z3).toNat, by omega, by omega, by omega⟩
  refine SQ.st [some (.ref a), some (.bl fb), some (.bl gb), some (.str wd), some (.int M), none, none, none, none, none, none, none] (by rw [← hM]; rfl) ?_
  clear off3 hB2 up2 hM
  -- number
  refine s_cons (s_set (i := 5) sc_case.nd (q_sub (q_cal CT hr1 (a_cons (qv 0 rfl (a_cons (q_int (a_nil ⟨a, n + 18, 19, rfl, hB3.less (by omega), by decide, by decide, fun z4 G4 x0 x1 off4 hB4 => q_int ?_⟩))))))))
  have up4 := up3.trans (.off off4)
  obtain ⟨z, hz, hz1⟩ : ∃ z : Int, z4 - 9 = z ∧ -10 < z ∧ z < 10 := ⟨z4 - 9, rfl, by omega, by omega⟩
  refine SQ.st [some (.ref a), some (.bl fb), some (.bl gb), some (.str wd), some (.int M), some (.int z), none, none, none, none, none, none] (by rw [← hz]; rfl) ?_
  clear off4 hB3 up3 hz
  -- names
  refine s_cons (s_setLc (i := 6) sc_case.nd (blkOk_by (N := nCase) (sc := defScope sCase) (own := [("one", 9)]) (by decide +kernel)) (i_list (q_cal CS hr (a_cons (qv 0 rfl (a_cons (qv 4 rfl (a_nil ⟨a, n + 10, M, rfl, by omega, hB4.less (by omega), fun nm G5 p5 hl hnd hsm up5 hB5 hp5 hp50 hp51 => ?_⟩))))))))
  refine ⟨_, hp51, ?_⟩
  refine lk_mapZ (zs := nm) W.str (fun x => (Tm.name x).W) sc_case.nd (by omega) (fun D ws hD => aup_new hD hp51) (fun x hx D ws hD s0 H0 C0 cl fp => ?_) (fun T6 hT6 => ?_)
  · exact q_tup (a_cons (q_str (a_cons (qv 9 rfl (a_nil ⟨rfl, rfl⟩)))))
  have up6 := (up4.trans up5).new (o := .lst (nm.map fun x => (Tm.name x).W)) hT6
  have hB6 := hB5.new (o := .lst (nm.map fun x => (Tm.name x).W)) hT6
  have ta : a ≠ T6 := Upto.boxN hB5 hT6
  have hT6' : (aup G5 T6 (.lst (nm.map fun x => (Tm.name x).W))) T6 = some (.lst (nm.map fun x => (Tm.name x).W)) := aup_same
  generalize aup G5 T6 (.lst (nm.map fun x => (Tm.name x).W)) = G6 at up6 hB6 hT6' ⊢
  clear hT6 hp51 up5 hB5 hB4 up4
  subst hl
  -- order
  refine s_cons (s_set (i := 7) sc_case.nd (q_lrg2 B.range B.list (q_int (qv 4 rfl ⟨RgOk.of_le (by omega) (by omega) (by omega) (by omega), fun o ho => ?_⟩))))
  rw [show ((nm.length : Int) - 1).toNat = nm.length - 1 by omega, rng1W]
  have oa : a ≠ o := Upto.boxN hB6 ho
  have oT : T6 ≠ o := ane_none hT6' ho
  refine s_cons (s_cut (P := fun ρ2 G2 => ∃ rev, ρ2 = [some (.ref a), some (.bl fb), some (.bl gb), some (.str wd), some (.int nm.length), some (.int z), some (.ref T6), some (.ref o), none, none, none, none] ∧ G2 o = some (.lst (nW ((List.range (nm.length - 1)).map (ordN nm.length rev)))) ∧ G2 T6 = some (.lst (nm.map fun x => (Tm.name x).W)) ∧ BoxAt G2 a (n + 5) ∧ Upto [a] G G2) ?_ ?_)
  · refine s_if (b_eq (u64 hr) (q_cal CT hr1 (a_cons (qv 0 rfl (a_cons (q_int (a_nil ⟨a, n + 9, 2, rfl, (hB6.new ho).less (by omega), by decide, by decide, fun z7 G7 _ _ off7 hB7 => q_int ?_⟩)))))))
    have ho7 : G7 o = some (.lst (nW ((List.range (nm.length - 1)).map fun p => p + 1))) := by rw [off7 o (by rw [List.mem_singleton]; exact oa.symm)]; exact aup_same
    have hT7 : G7 T6 = some (.lst (nm.map fun x => (Tm.name x).W)) := by rw [off7 T6 (by rw [List.mem_singleton]; exact ta.symm), aup_ne oT]; exact hT6'
    have up7 := (up6.new (o := .lst (nW ((List.range (nm.length - 1)).map fun p => p + 1))) ho).trans (.off off7)
    have hGo : G o = none := up6.free ho (by rw [List.mem_singleton]; exact oa.symm)
    refine ifB_of (fun _ => ?_) (fun _ => s_nil ⟨false, rfl, ho7, hT7, hB7.less (by omega), up7⟩)
    refine s_cons (s_expr (q_reverse (qv 7 rfl ⟨o, _, rfl, ho7, _, ho7, ?_⟩)))
    refine s_nil ⟨true, rfl, ?_, by rw [aup_ne oT]; exact hT7, (hB7.old oa).less (by omega), up7.putN hGo⟩
    rw [aup_same]
    congr 2
    have h2 : nm.length - 1 + 1 = nm.length := by omega
    have := ord_rev (nm.length - 1)
    rw [h2] at this
    rw [← this]
    unfold nW
    rw [List.map_reverse]
  rintro ρ2 G8 ⟨rev, rfl, ho8, hT8, hB8, up8⟩
  clear up6 hB6 hT6' ho
  -- at
  refine s_cons (s_set (i := 8) sc_case.nd (q_dictP B.dict (a_cons (q_lc sc_case.nd (blkOk_by (N := nCase) (sc := defScope sCase) (own := [("place", 10), ("i", 11)]) (by decide +kernel)) (i_enum rfl B.enumerate (qv 7 rfl ⟨_, ho8, ?_⟩))))))
  have en : enW (nW ((List.range (nm.length - 1)).map (ordN nm.length rev))) = (List.range (nm.length - 1)).map fun p => W.tup [.int (p : Nat), .int (ordN nm.length rev p : Nat)] := by
    refine List.ext_getElem? fun i => ?_
    by_cases hi : i < nm.length - 1
    · rw [List.getElem?_map, List.getElem?_range hi]
      exact enW_get (by unfold nW; rw [List.getElem?_map, List.getElem?_map, List.getElem?_range hi]; rfl)
    · rw [List.getElem?_eq_none (by rw [enW_length, nW_length, List.length_map, List.length_range]; omega), List.getElem?_eq_none (by rw [List.length_map, List.length_range]; omega)]
  rw [en]
  refine lk_map2 (zs := List.range (nm.length - 1)) (fun p => W.int (p : Nat)) (fun p => W.int (ordN nm.length rev p : Nat)) (fun p => W.tup [.int (ordN nm.length rev p - 1 : Nat), .int (nm.length + p : Nat)]) sc_case.nd (by rw [List.length_range]; omega) (fun D ws hD => aup_new hD ho8) (fun p hp D ws hD s0 H0 C0 cl fp => ?_) (fun D hD => ?_)
  · have := ordN_lt (rev := rev) (List.mem_range.mp hp)
    refine q_tup (a_cons (q_sub (qv 11 rfl (q_int (a_cons (q_add (qv 4 rfl (qv 10 rfl (a_nil ⟨?_, rfl⟩)))))))))
    rw [show ((ordN nm.length rev p : Nat) : Int) - 1 = ((ordN nm.length rev p - 1 : Nat) : Int) by omega]; rfl
  refine a_nil ⟨_, (List.range (nm.length - 1)).map fun p => ((.inl ((ordN nm.length rev p - 1 : Nat) : Int) : Key), W.int (nm.length + p : Nat)), rfl, ?_, fun d hd => ?_⟩
  · rw [List.map_map]; exact aup_same
  have D0 := di_foldF (N := nm.length) (fun p => ordN nm.length rev p - 1) (fun i => atN nm.length rev i - nm.length) (fun p => W.int (nm.length + p : Nat)) (nm.length - 1) (fun p hp => by have := ordN_lt (rev := rev) hp; show ordN nm.length rev p - 1 < _; omega) (fun p hp => by
    show atN nm.length rev (ordN nm.length rev p - 1) - nm.length = p
    rw [at_ord hp]; omega)
  have D1 := D0.cong (b' := atI' nm.length rev) fun i => by
    unfold atI'
    by_cases c : i < nm.length - 1
    · obtain ⟨t1, t2, t3⟩ := atN_lt (rev := rev) c
      rw [if_pos c, if_pos ⟨by omega, by rw [t3]; rfl⟩, show nm.length + (atN nm.length rev i - nm.length) = atN nm.length rev i by omega]
    · rw [if_neg c, if_neg]
      rintro ⟨h1, h2⟩
      have := ordN_lt (rev := rev) h1
      omega
  have dlen : (mgW [] ((List.range (nm.length - 1)).map fun p => ((.inl ((ordN nm.length rev p - 1 : Nat) : Int) : Key), W.int (nm.length + p : Nat)))).length = nm.length - 1 :=
    mg_len (fun p => ordN nm.length rev p - 1) (fun p => W.int (nm.length + p : Nat)) (nm.length - 1) fun p q hp hq e => by
      have e' : ordN nm.length rev p - 1 = ordN nm.length rev q - 1 := e
      have h1 := at_ord (rev := rev) hp
      have h2 := at_ord (rev := rev) hq
      rw [e', h2] at h1
      omega
  generalize mgW [] ((List.range (nm.length - 1)).map fun p => ((.inl ((ordN nm.length rev p - 1 : Nat) : Int) : Key), W.int (nm.length + p : Nat))) = kws at D1 dlen ⊢
  obtain ⟨hd0, hdD⟩ := aup_free hd
  have dT : T6 ≠ d := ane_none hT8 hd0
  have da : a ≠ d := Upto.boxN hB8 hd0
  have dO : o ≠ d := ane_none ho8 hd0
  have hT9 := aup_new (u := .dK kws) hd (aup_new (u := .lst ((List.range (nm.length - 1)).map fun p => W.tup [.int (ordN nm.length rev p - 1 : Nat), .int (nm.length + p : Nat)])) hD hT8)
  have ho9 := aup_new (u := .dK kws) hd (aup_new (u := .lst ((List.range (nm.length - 1)).map fun p => W.tup [.int (ordN nm.length rev p - 1 : Nat), .int (nm.length + p : Nat)])) hD ho8)
  have up9 := (up8.new (o := .lst ((List.range (nm.length - 1)).map fun p => W.tup [.int (ordN nm.length rev p - 1 : Nat), .int (nm.length + p : Nat)])) hD).new (o := .dK kws) hd
  have hB9 := (hB8.new (o := .lst ((List.range (nm.length - 1)).map fun p => W.tup [.int (ordN nm.length rev p - 1 : Nat), .int (nm.length + p : Nat)])) hD).new (o := .dK kws) hd
  have hd9 : (aup (aup G8 D (.lst ((List.range (nm.length - 1)).map fun p => W.tup [.int (ordN nm.length rev p - 1 : Nat), .int (nm.length + p : Nat)]))) d (.dK kws)) d = some (.dK kws) := aup_same
  generalize aup (aup G8 D (.lst ((List.range (nm.length - 1)).map fun p => W.tup [.int (ordN nm.length rev p - 1 : Nat), .int (nm.length + p : Nat)]))) d (.dK kws) = G9 at hT9 ho9 up9 hB9 hd9 ⊢
  have hGd : G d = none := up8.free hd0 (by rw [List.mem_singleton]; exact da.symm)
  -- terms
  refine s_cons (s_set (i := 6) sc_case.nd (q_addV (q_addV (qv 6 rfl (q_v (q_lc sc_case.nd (blkOk_by (N := nCase) (sc := defScope sCase) (own := [("i", 11)]) (by decide +kernel)) (i_list (qv 7 rfl ⟨_, ho9, ?_⟩))))))))
  refine lk_mapZ (zs := (List.range (nm.length - 1)).map (ordN nm.length rev)) (fun k => W.int (k : Nat)) (fun k => (Tm.of wd [k]).W) sc_case.nd (by rw [List.length_map, List.length_range]; omega) (fun D ws hD => aup_new hD ho9) (fun k hk D ws hD s0 H0 C0 cl fp => ?_) (fun D2 hD2 => frz_new hD2 ?_)
  · exact q_tup (a_cons (q_str (a_cons (qv 3 rfl (a_cons (q_tup (a_cons (qv 11 rfl (a_nil (a_nil ⟨rfl, rfl⟩))))))))))
  refine ⟨_, _, hT9, rfl, by rw [List.length_map, List.length_map, List.length_map, List.length_range]; omega, ?_⟩
  refine q_lstV (a_cons (q_tup (a_cons (q_str (a_cons (qv 5 rfl (a_nil (a_nil ⟨_, _, rfl, rfl, ?_, ?_⟩))))))))
  · rw [List.length_append, List.length_map, List.length_map, List.length_map, List.length_range]
    show _ + 1 ≤ _
    omega
  have et : nm.map (fun x => (Tm.name x).W) ++ ((List.range (nm.length - 1)).map (ordN nm.length rev)).map (fun k => (Tm.of wd [k]).W) ++ [W.tup [.str "num", .int z]] = tW (tsN nm wd z rev) := by
    unfold tW tsN
    rw [List.map_append, List.map_append, List.map_map, List.map_map, List.map_map]; rfl
  rw [et]
  refine s_cons (s_ret (q_tup (a_cons (qv 6 rfl (a_cons (qv 8 rfl (a_cons (qv 3 rfl (a_cons (qv 5 rfl (a_nil ⟨G9, Sub.refl, ?_⟩)))))))))))
  exact kk nm wd z rev d kws G9 up9 (hB9.less (by omega)) hGd da.symm hd9 D1 dlen ⟨by omega, by omega, hnd, hsm, hwd.2, hwd.1, hz1⟩
end
end SW
namespace SW
open PySem PySem.Spec L2 AL
/-! ### trees -/
inductive Tr where
  | num (n : Int)
  | name (x : Str)
  | of (w : Str) (xs : List Tr)
mutual
def Tr.W : Tr → AL.W
  | .num n => (Tm.num n).W
  | .name x => (Tm.name x).W
  | .of w xs => .tup [.str "of", .str w, .tup (Tr.Ws xs)]
def Tr.Ws : List Tr → List AL.W
  | [] => []
  | x :: xs => Tr.W x :: Tr.Ws xs
end
theorem Tr.Ws_map : ∀ xs : List Tr, Tr.Ws xs = xs.map Tr.W
  | [] => rfl
  | x :: xs => by rw [Tr.Ws, Tr.Ws_map xs]; rfl
def maxL (xs : List Nat) : Nat := xs.foldl max 0
def szF (nx : Nat → List Nat) (S : Nat → Nat × Nat) (x : Nat) : Nat × Nat := (1 + ((nx x).map fun m => (S m).1).sum, maxL ((nx x).map fun m => (S m).2) + 1)
def trF (ts : List Tm) (ls : List Nat) (p : Nat → Option Nat) (T : Nat → Tr) (x : Nat) : Tr := match tmAt ts ((p x).getD 0) with
  | .of w ks => .of w (ks.map fun a => T (Lf ls a))
  | .num n => .num n
  | .name x => .name x
def szW (s : Nat × Nat) : W := .tup [.int (s.1 : Nat), .int (s.2 : Nat)]
def onOrd {α : Type} (ord : List Nat) (f : Nat → α) (g : α → W) : Nat → Option W := fun j => if j ∈ ord then some (g (f j)) else none
theorem onOrd_add {α : Type} {ord : List Nat} {f : Nat → α} {g : α → W} {i x : Nat} (h : ord[i]? = some x) (j : Nat) : (if j = x then some (g (f x)) else onOrd (ord.take i) f g j) = onOrd (ord.take (i + 1)) f g j := by
  unfold onOrd
  rw [List.take_succ, h, Option.toList_some]
  by_cases e : j = x
  · subst e; simp
  · simp [e]
section
variable {P : Program} {w : World} {K : PySem.W.Frag} {mg : Str → Option Value} {base : Heap}
/-- terms, leads, a choice as they are handed in -/
structure OIn (G : AH) (t l ch : W) (ts : List Tm) (ls : List Nat) (p : Nat → Option Nat) (ord : List Nat) : Prop where
  hT : LsA G t (tW ts)
  hL : LsA G l (nW ls)
  hC : LsA G ch (rwW p ord)
  O : LsOk ts ls
  top : Top (nxF ts ls p) ord
  pk : ∀ x ∈ ord, x < ts.length ∧ ∃ m, p x = some m ∧ m < ts.length
theorem OIn.sub {G G' : AH} {t l ch : W} {ts : List Tm} {ls : List Nat} {p : Nat → Option Nat} {ord : List Nat} (h : OIn G t l ch ts ls p ord) (s : Sub G G') : OIn G' t l ch ts ls p ord := ⟨h.hT.sub s, h.hL.sub s, h.hC.sub s, h.O, h.top, h.pk⟩
theorem rw_item {p : Nat → Option Nat} {ord : List Nat} {i : Nat} {x : W} (h : (rwW p ord)[i]? = some x) : ∃ k : Nat, ord[i]? = some k ∧ W.tup [.int k, .int ((p k).getD 0 : Nat)] = x := by
  rw [rwW, List.getElem?_map] at h; exact Option.map_eq_some_iff.mp h
abbrev sSz : Stmt := top 19
theorem sc_sz : FnScope ["terms", "leads", "choice", "sizes", "lead", "k", "many", "deep", "arm"] ["terms", "leads", "choice"] (defScope sSz) := ⟨rfl, rfl, rfl, by decide +kernel, rfl, by decide +kernel, by decide +kernel⟩
def spSz : ASp := fun ws G K _ => ∃ (t l ch : W) (ts : List Tm) (ls : List Nat) (p : Nat → Option Nat) (ord : List Nat) (S : Nat → Nat × Nat), ws = [t, l, ch] ∧ OIn G t l ch ts ls p ord ∧ (∀ x ∈ ord, S x = szF (nxF ts ls p) S x) ∧
  ∀ a bk, G a = none → DI ts.length bk (onOrd ord S szW) → K (.ref a) (aup G a (.dK bk))
theorem ok_sz {f : Addr} {fd : FuncData} (F : Fun K "sizes_by" "sizes_by" sSz f fd) (B : Bl mg) (CA : Cal P w K mg base "arms_of" 1 ["term"] spArms) : FnOk P w K mg base CX0 2 f fd ["terms", "leads", "choice"] (low ⟨P, w, K⟩ spSz) := by
  refine fnA_of F sc_sz (fun ws G Kc KE ⟨t, l, ch, ts, ls, p, ord, S, e, _⟩ => by rw [e]; rfl) fun cdv A outer s H E ws G Kc KE hr ⟨t, l, ch, ts, ls, p, ord, S, e, I, hS, k⟩ => ?_
  subst e
  have many := I.O.T.many
  refine s_cons (s_set (i := 3) sc_sz.nd (q_dnew fun a ha => ?_))
  have Sx : ∀ o, Sub G (aup G a o) := fun _ => Sub.new ha
  refine s_cons (s_for PassesOwn.never rfl (i_list (qv 2 rfl ⟨_, (I.sub (Sx _)).hC, ?_⟩)))
  refine ⟨fun i ρ' G' => ∃ (bk : List (Key × W)) (v1 v2 v3 v4 v5 : Option W), ρ' = [some t, some l, some ch, some (.ref a), v1, v2, v3, v4, v5] ∧ G' = aup G a (.dK bk) ∧ DI ts.length bk (onOrd (ord.take i) S szW), ⟨[], none, none, none, none, none, rfl, rfl, (DI.nil _).cong fun j => by simp [onOrd]⟩,
    fun i ρ' G' _ ⟨_, _, _, _, _, _, _, e2, _⟩ => by rw [e2]; exact (I.sub (Sx _)).hC, fun i z ρ' G' hz ⟨bk, v1, v2, v3, v4, v5, e1, e2, D⟩ => ?_, fun ρ' G' ⟨bk, v1, v2, v3, v4, v5, e1, e2, D⟩ => ?_⟩
  · obtain ⟨x, hx, rfl⟩ := rw_item hz
    subst e1 e2
    obtain ⟨hxl, m, hp, hm⟩ := I.pk x (List.mem_of_getElem? hx)
    rw [hp]
    have tm := at_of (d := Tm.num 0) hm
    have nxe : nxF ts ls p x = (arms (tmAt ts m)).map (Lf ls) := by unfold nxF; rw [hp]; rfl
    have hia : ∀ b ∈ arms (tmAt ts m), b < ls.length := (mk_arms I.O.T (ls := ls) I.O.g.len tm).1
    have ah := I.top.ahead i x hx
    rw [nxe] at ah
    have ex := hS x (List.mem_of_getElem? hx)
    unfold szF at ex
    rw [nxe, List.map_map, List.map_map] at ex
    refine g_tup rfl (gs_cons (g_name (i := 4) sc_sz.nd (gs_cons (g_name (i := 5) sc_sz.nd (gs_nil ?_)))))
    refine s_cons (s_set (i := 6) sc_sz.nd (q_int ?_))
    refine s_cons (s_set (i := 7) sc_sz.nd (q_int ?_))
    refine s_cons (s_for PassesOwn.never rfl (i_tup (q_cal CA hr (a_cons (q_ix (qv 0 rfl (qv 5 rfl (fIx_ls (I.sub (Sx _)).hT (tW_at tm) ?_))))))))
    refine a_nil ⟨tmAt ts m, rfl, ?_⟩
    let as := arms (tmAt ts m)
    refine ⟨fun j ρ' G' => ∃ v5, ρ' = [some t, some l, some ch, some (.ref a), some (.int x), some (.int m), some (.int (1 + ((as.take j).map fun b => (S (Lf ls b)).1).sum : Nat)), some (.int (maxL ((as.take j).map fun b => (S (Lf ls b)).2) : Nat)), v5] ∧ G' = aup G a (.dK bk), ⟨v5, rfl, rfl⟩, fun _ _ _ _ _ => trivial, fun j z ρ' G' hz ⟨v5, e1, e2⟩ => ?_, fun ρ' G' ⟨v5, e1, e2⟩ => ?_⟩
    · obtain ⟨b, hb, rfl⟩ := nW_item hz
      subst e1 e2
      have hbm := List.mem_of_getElem? hb
      have hbl := hia b hbm
      have hin : Lf ls b ∈ ord.take i := ah _ (List.mem_map_of_mem hbm)
      have look : lk bk (.inl ((Lf ls b : Nat) : Int)) = some (szW (S (Lf ls b))) := by rw [D.get]; unfold onOrd; rw [if_pos hin]
      have tk : as.take (j + 1) = as.take j ++ [b] := by rw [List.take_succ]; show _ ++ (arms (tmAt ts m))[j]?.toList = _; rw [hb]; rfl
      refine g_name (i := 8) sc_sz.nd ?_
      refine s_cons (s_addI (i := 6) (z := ((1 + ((as.take j).map fun b => (S (Lf ls b)).1).sum : Nat) : Int)) sc_sz.nd rfl (q_ix (q_dget (u64 hr) (qv 3 rfl (q_ix (qv 1 rfl (qv 8 rfl (fIx_ls (I.sub (Sx _)).hL (nW_at hbl) ?_))))))))
      refine ⟨bk, _, _, .inl aup_same, keyW_nat _, look, q_int ?_⟩
      refine s_cons (s_set (i := 7) sc_sz.nd (q_max2 B.max (a_cons (qv 7 rfl (a_cons (q_ix (q_dget (u64 hr) (qv 3 rfl (q_ix (qv 1 rfl (qv 8 rfl (fIx_ls (I.sub (Sx _)).hL (nW_at hbl) ?_))))))))))))
      refine ⟨bk, _, _, .inl aup_same, keyW_nat _, look, q_int (a_nil ?_)⟩
      refine s_nil ⟨some (.int (b : Nat)), ?_, rfl⟩
      rw [tk, List.map_append, List.map_append, List.sum_append]
      have e1 : ((1 + ((as.take j).map fun b => (S (Lf ls b)).1).sum : Nat) : Int) + (((S (Lf ls b)).1 : Nat) : Int) = ((1 + (((as.take j).map fun b => (S (Lf ls b)).1).sum + ([b].map fun b => (S (Lf ls b)).1).sum) : Nat) : Int) := by
        show _ = ((1 + (_ + ((S (Lf ls b)).1 + 0)) : Nat) : Int)
        omega
      have e2 : (if (((S (Lf ls b)).2 : Nat) : Int) > ((maxL ((as.take j).map fun b => (S (Lf ls b)).2) : Nat) : Int) then (((S (Lf ls b)).2 : Nat) : Int) else ((maxL ((as.take j).map fun b => (S (Lf ls b)).2) : Nat) : Int)) = ((maxL (((as.take j).map fun b => (S (Lf ls b)).2) ++ [b].map fun b => (S (Lf ls b)).2) : Nat) : Int) := by
        unfold maxL
        rw [List.foldl_append]
        show _ = ((max _ (S (Lf ls b)).2 : Nat) : Int)
        exact max_cast _ _
      rw [← e1, ← e2]
      rfl
    · have tl : as.take (nW as).length = as := by rw [nW_length, List.take_length]
      have e1 : ρ' = [some t, some l, some ch, some (.ref a), some (.int x), some (.int m), some (.int (1 + ((as.take (nW as).length).map fun b => (S (Lf ls b)).1).sum : Nat)), some (.int (maxL ((as.take (nW as).length).map fun b => (S (Lf ls b)).2) : Nat)), v5] := e1
      rw [tl] at e1
      subst e1 e2
      refine s_cons (s_asg (q_tup (a_cons (qv 6 rfl (a_cons (q_add (qv 7 rfl (q_int ?_))))))))
      refine a_nil (g_dput (u64 hr) (qv 3 rfl (qv 4 rfl ⟨bk, _, aup_same, keyW_nat _, D.small (by omega), ?_⟩)))
      rw [aup_aup]
      refine s_nil ⟨_, _, _, _, _, _, rfl, rfl, (D.put hxl _).cong fun j => ?_⟩
      rw [← onOrd_add hx j]
      have : W.tup [W.int ((1 + (as.map fun b => (S (Lf ls b)).1).sum : Nat) : Int), W.int (((maxL (as.map fun b => (S (Lf ls b)).2) : Nat) : Int) + 1)] = szW (S x) := by
        rw [ex]; rfl
      rw [← this]
  · rw [rwW_length, List.take_length] at D
    subst e1 e2
    exact s_cons (s_ret (qv 3 rfl ⟨_, Sub.refl, k a bk ha D⟩))
/-! ### taken -/
abbrev sTk : Stmt := top 20
abbrev nTk : List Str := ["terms", "leads", "choice", "last", "size", "trees", "lead", "k", "term", "arm"]
theorem sc_tk : FnScope nTk ["terms", "leads", "choice"] (defScope sTk) := ⟨rfl, rfl, rfl, by decide +kernel, rfl, by decide +kernel, by decide +kernel⟩
def bigS (s : Nat × Nat) : Prop := 500 < s.1 ∨ 60 < s.2
def spTk (C : Addr) : ASp := fun ws G K KE => ∃ (t l ch : W) (ts : List Tm) (ls : List Nat) (p : Nat → Option Nat) (ord : List Nat) (S : Nat → Nat × Nat) (T : Nat → Tr) (lead : Nat), ws = [t, l, ch] ∧ OIn G t l ch ts ls p ord ∧ (∀ x ∈ ord, S x = szF (nxF ts ls p) S x) ∧ (∀ x ∈ ord, T x = trF ts ls p T x) ∧ ord.getLast? = some lead ∧
  (bigS (S lead) → KE (.ref C) none G) ∧ (¬ bigS (S lead) → K (T lead).W G)
theorem ok_tk {C : Addr} {f : Addr} {fd : FuncData} (F : Fun K "taken" "taken" sTk f fd) (B : Bl mg) (TB : ExcT K mg "TooBig" C) (CS : Cal P w K mg base "sizes_by" 2 ["terms", "leads", "choice"] spSz) : FnOk P w K mg base (L2.CX P w) 3 f fd ["terms", "leads", "choice"] (low ⟨P, w, K⟩ (spTk C)) := by
  refine fnA_ofX F sc_tk (fun ws G Kc KE ⟨t, l, ch, ts, ls, p, ord, S, T, lead, e, _⟩ => by rw [e]; rfl) fun cdv A outer s H E ws G Kc KE hr ⟨t, l, ch, ts, ls, p, ord, S, T, lead, e, I, hS, hT, hl, kb, kk⟩ th => ?_
  subst e
  have many := I.O.T.many
  obtain ⟨h0, hla⟩ := last_at hl
  have hlm : lead ∈ ord := List.mem_of_getElem? hla
  have rla : atI (rwW p ord) (-1) = some (.tup [.int (lead : Nat), .int ((p lead).getD 0 : Nat)]) := by
    refine atI_last ?_ (by rw [rwW_length]; exact h0)
    rw [rwW_length, rwW, List.getElem?_map, hla]; rfl
  refine s_cons (s_set (i := 3) sc_tk.nd (q_ix (q_ix (qv 2 rfl (q_neg (q_int ?_))))))
  dsimp only [onI]
  refine fIx_ls I.hC rla ?_
  refine q_int ?_
  refine s_cons (s_set (i := 4) sc_tk.nd (q_dget (u64 hr) (q_cal CS hr (a_cons (qv 0 rfl (a_cons (qv 1 rfl (a_cons (qv 2 rfl (a_nil ⟨t, l, ch, ts, ls, p, ord, S, rfl, I, hS, fun a bk ha D => ?_⟩))))))))))
  refine qv 3 rfl ⟨bk, _, szW (S lead), .inl aup_same, keyW_nat _, by rw [D.get]; unfold onOrd; rw [if_pos hlm], ?_⟩
  have Sa : Sub G (aup G a (.dK bk)) := Sub.new ha
  refine s_cons (s_if (WQ.test (w_or (b_gt (q_ix (qv 4 rfl (q_int ?_)))))))
  refine q_int ?_
  refine ifB_dec (fun hb => ifT (s_cons (s_raise th TB ⟨G, Sa, kb (.inl (by omega))⟩))) (fun hb => ?_)
  refine w_or1 (b_gt (q_ix (qv 4 rfl (q_int ?_))))
  refine q_int ?_
  refine ifB_dec (fun hb2 => (s_cons (s_raise th TB ⟨G, Sa, kb (.inr (by omega))⟩))) (fun hb2 => ?_)
  have nb : ¬ bigS (S lead) := fun z => by
    rcases z with z | z
    · exact hb (by omega)
    · exact hb2 (by omega)
  refine s_nil (s_cons (s_set (i := 5) sc_tk.nd (q_dnew fun d hd => ?_)))
  obtain ⟨hd0, hda⟩ := aup_free hd
  have Sx : ∀ o, Sub G (aup (aup G a (.dK bk)) d o) := fun _ => sub2 ha hd0
  refine s_cons (s_for (L2.passes_of rfl) rfl (i_list (qv 2 rfl ⟨_, (I.sub (Sx _)).hC, ?_⟩)))
  refine ⟨fun i ρ' G' => ∃ (dk : List (Key × W)) (v1 v2 v3 v4 : Option W), ρ' = [some t, some l, some ch, some (.int lead), some (szW (S lead)), some (.ref d), v1, v2, v3, v4] ∧ G' = aup (aup G a (.dK bk)) d (.dK dk) ∧ DI ts.length dk (onOrd (ord.take i) T Tr.W), ⟨[], none, none, none, none, rfl, rfl, (DI.nil _).cong fun j => by simp [onOrd]⟩,
    fun i ρ' G' _ ⟨_, _, _, _, _, _, e2, _⟩ => by rw [e2]; exact (I.sub (Sx _)).hC, fun i z ρ' G' hz ⟨dk, v1, v2, v3, v4, e1, e2, D⟩ => ?_, fun ρ' G' ⟨dk, v1, v2, v3, v4, e1, e2, D⟩ => ?_⟩
  · obtain ⟨x, hx, rfl⟩ := rw_item hz
    subst e1 e2
    obtain ⟨hxl, m, hp, hm⟩ := I.pk x (List.mem_of_getElem? hx)
    rw [hp]
    have tm := at_of (d := Tm.num 0) hm
    have nxe : nxF ts ls p x = (arms (tmAt ts m)).map (Lf ls) := by unfold nxF; rw [hp]; rfl
    have hia : (∀ k ∈ arms (tmAt ts m), k < ls.length) ∧ (arms (tmAt ts m)).length ≤ 4 := (mk_arms I.O.T (ls := ls) I.O.g.len tm)
    have ah := I.top.ahead i x hx
    rw [nxe] at ah
    have ex := hT x (List.mem_of_getElem? hx)
    unfold trF at ex
    rw [hp] at ex
    have ex : T x = (match tmAt ts m with | .of w ks => .of w (ks.map fun a => T (Lf ls a)) | .num n => .num n | .name x => .name x) := ex
    have tm : ts[m]? = some (tmAt ts m) := tm
    refine g_tup rfl (gs_cons (g_name (i := 6) sc_tk.nd (gs_cons (g_name (i := 7) sc_tk.nd (gs_nil ?_)))))
    refine s_cons (s_set (i := 8) sc_tk.nd (q_ix (qv 0 rfl (qv 7 rfl (fIx_ls (I.sub (Sx _)).hT (tW_at tm) ?_)))))
    refine s_cons (s_cut (P := fun ρ2 G2 => ∃ v, ρ2 = [some t, some l, some ch, some (.int lead), some (szW (S lead)), some (.ref d), some (.int x), some (.int m), some (T x).W, v] ∧ G2 = aup (aup G a (.dK bk)) d (.dK dk)) ?_ ?_)
    rotate_left
    · rintro ρ2 G2 ⟨v, rfl, rfl⟩
      refine s_cons (s_asg (qv 8 rfl (g_dput (u64 hr) (qv 5 rfl (qv 6 rfl ⟨dk, _, aup_same, keyW_nat _, D.small (by omega), ?_⟩)))))
      rw [aup_aup]
      exact s_nil ⟨_, _, _, _, _, rfl, rfl, (D.put hxl _).cong fun j => onOrd_add hx j⟩
    refine (s_if (b_eq (u64 hr) (q_ix (qv 8 rfl (q_int ?_)))))
    generalize tmAt ts m = tmx at ex ah hia
    cases tmx with
    | num n => exact q_str (ifB_F (by decide +kernel) (s_nil ⟨_, by rw [ex]; rfl, rfl⟩))
    | name n => exact q_str (ifB_F (by decide +kernel) (s_nil ⟨_, by rw [ex]; rfl, rfl⟩))
    | of wd ks =>
      refine q_str (ifB_T (by decide +kernel) ?_)
      refine s_cons (s_set (i := 8) sc_tk.nd (q_tup (a_cons (q_str (a_cons (q_ix (qv 8 rfl (q_int ?_))))))))
      refine a_cons (q_tuple B.tuple (a_cons (q_v (q_lc sc_tk.nd (blkOk_by (N := nTk) (sc := defScope sTk) (own := [("arm", 9)]) (by decide +kernel)) (i_tup (q_ix (qv 8 rfl (q_int ?_))))))))
      refine lk_mapZ (zs := ks) (fun (k : Nat) => W.int k) (fun k => (T (Lf ls k)).W) sc_tk.nd (Nat.le_trans hia.2 (by decide)) (fun _ _ _ => trivial) (fun z hz D' ws hD s0 H0 C cl fp => ?_) (fun D' hD => ?_)
      · refine q_dget (u64 hr) (qv 5 rfl (q_ix (qv 1 rfl (qv 9 rfl (fIx_ls ((I.hL.sub (Sx _)).new hD) (nW_at (hia.1 z hz)) ?_)))))
        refine ⟨dk, _, _, .inl (aup_new hD aup_same), keyW_nat _, ?_, rfl, rfl⟩
        rw [D.get]
        unfold onOrd
        rw [if_pos (ah _ (List.mem_map_of_mem hz))]
      · have e2 : Tr.W (.of wd (ks.map fun a => T (Lf ls a))) = .tup [.str "of", .str wd, .tup (ks.map fun k => (T (Lf ls k)).W)] := by rw [Tr.W, Tr.Ws_map, List.map_map]; rfl
        refine frz_new hD (a_nil (a_nil (s_nil ⟨v4, ?_, rfl⟩)))
        rw [ex, e2]
        rfl
  · rw [rwW_length, List.take_length] at D
    subst e1 e2
    refine s_cons (s_ret (q_dget (u64 hr) (qv 5 rfl (qv 3 rfl ⟨dk, _, (T lead).W, .inl aup_same, keyW_nat _, ?_, G, Sx _, kk nb⟩))))
    rw [D.get]
    unfold onOrd
    rw [if_pos hlm]
end
end SW
namespace SW
open PySem PySem.Spec L2 AL
/-! ### plain: prices and choices of names in a row -/
section
variable {nm : List Str} {wd : Str} {z : Int} {rev : Bool} {c : Tm → Nat} {b : Nat → Option Nat} {B : Nat → Nat} {kc lc big : Nat}
structure CsN (wd : Str) (z : Int) (c : Tm → Nat) (kc lc big : Nat) : Prop where
  nm : ∀ x, c (.name x) = big
  bg : 1000 ≤ big
  of : ∀ ks, c (.of wd ks) = kc
  num : c (.num z) = lc
  k1 : kc ≤ 9
  l1 : lc ≤ 9
theorem prN_name (C : CsN wd z c kc lc big) {k : Nat} {x : Str} (h : tmAt (tsN nm wd z rev) k = .name x) : prN (tsN nm wd z rev) (lsN nm.length rev) c B k = big := by
  unfold prN; rw [h, C.nm]; rfl
theorem prN_num (C : CsN wd z c kc lc big) {k : Nat} (h : tmAt (tsN nm wd z rev) k = .num z) : prN (tsN nm wd z rev) (lsN nm.length rev) c B k = lc := by
  unfold prN; rw [h, C.num]; rfl
theorem prN_of (R : RowN nm wd z) (C : CsN wd z c kc lc big) {k p : Nat} (hp : p < nm.length - 1) (h : tmAt (tsN nm wd z rev) k = .of wd [ordN nm.length rev p]) : prN (tsN nm wd z rev) (lsN nm.length rev) c B k = kc + B (ordN nm.length rev p) := by
  have o := ordN_lt (rev := rev) hp
  unfold prN
  rw [h, C.of]
  show kc + (B (Lf _ (ordN nm.length rev p)) + 0) = _
  rw [lsN_at (by omega), ldN_name o.2]; rfl
theorem best_due (R : RowN nm wd z) (C : CsN wd z c kc lc big) (h : Best (tsN nm wd z rev) (lsN nm.length rev) c b B) : ∀ j, j < nm.length → B (nm.length - 1 - j) = j * kc + lc := by
  have h2 := R.two
  have h99 := R.few
  have len := tsN_len (rev := rev) R
  have k9 := C.k1
  have l9 := C.l1
  have bg := C.bg
  have bnd : ∀ j, j < nm.length → j * kc + lc < big := fun j hj => by
    have := Nat.mul_le_mul (show j ≤ 99 by omega) k9
    have := C.bg
    omega
  intro j
  induction j with
  | zero =>
    intro hj
    have le1 := h.le (2 * nm.length - 1) (by omega)
    rw [lsN_at (by omega), ldN_num h2, prN_num C (tmAt_of (tsN_num R))] at le1
    obtain ⟨m, hm, e1, e2⟩ := h.at' (nm.length - 1) (by omega)
    rw [len] at hm
    rw [lsN_at hm, lsN_at (by omega), ldN_name (k := nm.length - 1) (by omega)] at e1
    rw [lsN_at (by omega), ldN_name (by omega)] at e2
    rw [Nat.sub_zero, Nat.zero_mul, Nat.zero_add]
    rcases tsN_what (rev := rev) R hm with ⟨a1, x, a2, q⟩ | ⟨a1, q⟩ | ⟨p, a1, a2, q⟩
    · rw [prN_name C q] at e2
      omega
    · rw [prN_num C q] at e2; exact e2.symm
    · have o := ordN_lt (rev := rev) a1
      rw [a2, ldN_of a1] at e1
      omega
  | succ j ih =>
    intro hj
    have ih := ih (by omega)
    have hi : nm.length - 1 - (j + 1) < nm.length - 1 := by omega
    generalize hie : nm.length - 1 - (j + 1) = i at hi
    rw [show nm.length - 1 - j = i + 1 by omega] at ih
    obtain ⟨t1, t2, t3⟩ := atN_lt (rev := rev) hi
    have q1 : tmAt (tsN nm wd z rev) (atN nm.length rev i) = .of wd [ordN nm.length rev (atN nm.length rev i - nm.length)] := by
      have := tsN_of (nm := nm) (wd := wd) (z := z) (rev := rev) (p := atN nm.length rev i - nm.length) (by omega)
      rw [show nm.length + (atN nm.length rev i - nm.length) = atN nm.length rev i by omega] at this
      exact tmAt_of this
    have le1 := h.le (atN nm.length rev i) (by omega)
    rw [lsN_at (by omega), ldN_at hi, prN_of R C (by omega) q1, t3, ih] at le1
    obtain ⟨m, hm, e1, e2⟩ := h.at' i (by omega)
    rw [len] at hm
    rw [lsN_at hm, lsN_at (by omega), ldN_name (k := i) (by omega)] at e1
    rw [lsN_at (by omega), ldN_name (by omega)] at e2
    have bd := bnd (j + 1) hj
    rw [Nat.succ_mul] at bd ⊢
    rcases tsN_what (rev := rev) R hm with ⟨a1, x, a2, q⟩ | ⟨a1, q⟩ | ⟨p, a1, a2, q⟩
    · rw [prN_name C q] at e2
      omega
    · rw [a1, ldN_num h2] at e1
      omega
    · have o := ordN_lt (rev := rev) a1
      rw [a2, ldN_of a1] at e1
      rw [prN_of R C a1 q, show ordN nm.length rev p = i + 1 by omega, ih] at e2
      omega
theorem best_dueI (R : RowN nm wd z) (C : CsN wd z c kc lc big) (h : Best (tsN nm wd z rev) (lsN nm.length rev) c b B) {i : Nat} (hi : i < nm.length) : B i = (nm.length - 1 - i) * kc + lc := by
  have := best_due R C h (nm.length - 1 - i) (by omega)
  rw [show nm.length - 1 - (nm.length - 1 - i) = i by omega] at this
  exact this
/-- what is picked of each class -/
def pkN (M : Nat) (rev : Bool) (i : Nat) : Nat := if i = M - 1 then 2 * M - 1 else atN M rev i
theorem pick_row (R : RowN nm wd z) (C : CsN wd z c kc lc big) {p : Nat → Option Nat} (h : Best (tsN nm wd z rev) (lsN nm.length rev) c b B) (pi : Pick (tsN nm wd z rev) (lsN nm.length rev) c B (tsN nm wd z rev).length p) {i : Nat} (hi : i < nm.length) : p i = some (pkN nm.length rev i) := by
  have h2 := R.two
  have len := tsN_len (rev := rev) R
  obtain ⟨m, e, hm, e1, e2, _⟩ := pick_at h pi (l := i) ⟨by omega, by rw [lsN_at (by omega), ldN_name hi]⟩
  rw [len] at hm
  rw [lsN_at hm] at e1
  rw [e]
  unfold pkN
  have bi := best_dueI R C h hi
  have k9 := C.k1
  have l9 := C.l1
  have h99 := R.few
  rcases tsN_what (rev := rev) R hm with ⟨a1, x, a2, q⟩ | ⟨a1, q⟩ | ⟨u, a1, a2, q⟩
  · rw [prN_name C q] at e2
    have := Nat.mul_le_mul (show nm.length - 1 - i ≤ 99 by omega) k9
    have := C.bg
    omega
  · rw [a1, ldN_num h2] at e1
    rw [if_pos e1.symm, a1]
  · have o := ordN_lt (rev := rev) a1
    rw [a2, ldN_of a1] at e1
    rw [if_neg (by omega), a2, ← e1, at_ord a1]
theorem nx_row (R : RowN nm wd z) {p : Nat → Option Nat} (hp : ∀ i, i < nm.length → p i = some (pkN nm.length rev i)) {i : Nat} (hi : i < nm.length) : nxF (tsN nm wd z rev) (lsN nm.length rev) p i = if i = nm.length - 1 then [] else [i + 1] := by
  have h2 := R.two
  unfold nxF
  rw [hp i hi]
  show (arms (tmAt _ (pkN nm.length rev i))).map _ = _
  unfold pkN
  by_cases c1 : i = nm.length - 1
  · rw [if_pos c1, if_pos c1, tmAt_of (tsN_num R)]; rfl
  · rw [if_neg c1, if_neg c1]
    have hi' : i < nm.length - 1 := by omega
    obtain ⟨t1, t2, t3⟩ := atN_lt (rev := rev) hi'
    have q1 := tsN_of (nm := nm) (wd := wd) (z := z) (rev := rev) (p := atN nm.length rev i - nm.length) (by omega)
    rw [show nm.length + (atN nm.length rev i - nm.length) = atN nm.length rev i by omega, t3] at q1
    rw [tmAt_of q1]
    show [Lf _ (i + 1)] = _
    rw [lsN_at (by omega), ldN_name (by omega)]
def ordD (M i : Nat) : List Nat := (List.range (M - i)).map fun u => M - 1 - u
theorem ord_row {nx : Nat → List Nat} {M i : Nat} (hi : i < M) (hn : ∀ l, l < M → nx l = if l = M - 1 then [] else [l + 1]) {ord : List Nat} (o : Ord nx i ord) : ord = ordD M i := by
  have rch : ∀ l, Reach nx i l → i ≤ l ∧ l < M := fun l r => by
    induction r with
    | refl => exact ⟨Nat.le_refl _, hi⟩
    | @step a c _ hc ih =>
      rw [hn a ih.2] at hc
      split at hc
      · cases hc
      · rw [List.mem_singleton] at hc; omega
  have mi : i ∈ ord := List.mem_of_getLast? o.last
  have mem : ∀ d, i + d < M → i + d ∈ ord := fun d => by
    induction d with
    | zero => intro _; exact mi
    | succ d ih =>
      intro h
      refine o.top.sub (ih (by omega)) ?_
      rw [hn _ (by omega), if_neg (by omega), List.mem_singleton]; omega
  have up : ∀ d v l, ord[v]? = some l → l + d < M → l + d ∈ ord.take (v + 1) := fun d => by
    induction d with
    | zero =>
      intro v l h _
      refine List.mem_of_getElem? (i := v) ?_
      rw [List.getElem?_take, if_pos (Nat.lt_succ_self v)]; exact h
    | succ d ih =>
      intro v l h hl
      obtain ⟨v', hv'⟩ := List.mem_iff_getElem?.mp (ih v l h (by omega))
      rw [List.getElem?_take] at hv'
      split at hv'
      · rename_i lt
        have h3 := o.top.ahead v' (l + d) hv' (l + (d + 1)) (by rw [hn _ (by omega), if_neg (by omega), List.mem_singleton]; omega)
        obtain ⟨u, hu⟩ := List.mem_iff_getElem?.mp h3
        rw [List.getElem?_take] at hu
        split at hu
        · refine List.mem_of_getElem? (i := u) ?_
          rw [List.getElem?_take, if_pos (by omega)]; exact hu
        · cases hu
      · cases hv'
  have dec : ord.Pairwise (· > ·) := by
    rw [List.pairwise_iff_getElem]
    intro u v hu hv huv
    by_cases c : ord[u] > ord[v]
    · exact c
    · exfalso
      have lv := (rch _ (o.rch _ (List.getElem_mem hv))).2
      have := up (ord[v] - ord[u]) u ord[u] (List.getElem?_eq_getElem hu) (by omega)
      rw [show ord[u] + (ord[v] - ord[u]) = ord[v] by omega] at this
      obtain ⟨t, ht⟩ := List.mem_iff_getElem?.mp this
      rw [List.getElem?_take] at ht
      split at ht
      · have lt := (List.getElem?_eq_some_iff.mp ht)
        have := (List.getElem_inj (h₀ := lt.1) (h₁ := hv) o.top.nd).mp lt.2
        omega
      · cases ht
  have e : ord.reverse = (ordD M i).reverse := by
    refine inc_ext (List.pairwise_reverse.mpr dec) (List.pairwise_reverse.mpr ?_) fun x => ?_
    · unfold ordD
      rw [List.pairwise_map]
      exact List.pairwise_lt_range.imp_of_mem fun {a b} ha hb h => by
        have := List.mem_range.mp hb
        show M - 1 - a > M - 1 - b
        omega
    · rw [List.mem_reverse, List.mem_reverse]
      unfold ordD
      rw [List.mem_map]
      constructor
      · intro hx
        have := rch _ (o.rch _ hx)
        exact ⟨M - 1 - x, List.mem_range.mpr (by omega), by omega⟩
      · rintro ⟨u, hu, rfl⟩
        have := List.mem_range.mp hu
        have := mem (M - 1 - u - i) (by omega)
        rw [show i + (M - 1 - u - i) = M - 1 - u by omega] at this
        exact this
  have := congrArg List.reverse e
  rw [List.reverse_reverse, List.reverse_reverse] at this
  exact this
/-- the tree of a class -/
def nestT (wd : Str) (z : Int) : Nat → Tr
  | 0 => .num z
  | d + 1 => .of wd [nestT wd z d]
theorem size_row (R : RowN nm wd z) {p : Nat → Option Nat} (hp : ∀ i, i < nm.length → p i = some (pkN nm.length rev i)) {i : Nat} (hi : i < nm.length) : ((nm.length - i, nm.length - i) : Nat × Nat) = szF (nxF (tsN nm wd z rev) (lsN nm.length rev) p) (fun x => (nm.length - x, nm.length - x)) i := by
  unfold szF
  rw [nx_row R hp hi]
  by_cases c1 : i = nm.length - 1
  · rw [if_pos c1]
    show _ = ((1 + 0, 0 + 1) : Nat × Nat)
    have : nm.length - i = 1 := by omega
    rw [this]
  · rw [if_neg c1]
    show _ = ((1 + (nm.length - (i + 1) + 0), max 0 (nm.length - (i + 1)) + 1) : Nat × Nat)
    have : nm.length - i = 1 + (nm.length - (i + 1) + 0) := by omega
    have h2 : nm.length - i = max 0 (nm.length - (i + 1)) + 1 := by omega
    rw [← this, ← h2]
theorem tree_row (R : RowN nm wd z) {p : Nat → Option Nat} (hp : ∀ i, i < nm.length → p i = some (pkN nm.length rev i)) {i : Nat} (hi : i < nm.length) : nestT wd z (nm.length - 1 - i) = trF (tsN nm wd z rev) (lsN nm.length rev) p (fun x => nestT wd z (nm.length - 1 - x)) i := by
  have h2 := R.two
  unfold trF
  rw [hp i hi]
  show _ = match tmAt _ (pkN nm.length rev i) with
    | .of w ks => _
    | .num n => _
    | .name x => _
  unfold pkN
  by_cases c1 : i = nm.length - 1
  · rw [if_pos c1, tmAt_of (tsN_num R), c1, Nat.sub_self]; rfl
  · rw [if_neg c1]
    have hi' : i < nm.length - 1 := by omega
    obtain ⟨t1, t2, t3⟩ := atN_lt (rev := rev) hi'
    have q1 := tsN_of (nm := nm) (wd := wd) (z := z) (rev := rev) (p := atN nm.length rev i - nm.length) (by omega)
    rw [show nm.length + (atN nm.length rev i - nm.length) = atN nm.length rev i by omega, t3] at q1
    rw [tmAt_of q1]
    show _ = Tr.of wd [nestT wd z (nm.length - 1 - Lf _ (i + 1))]
    rw [lsN_at (by omega), ldN_name (by omega), show nm.length - 1 - i = (nm.length - 1 - (i + 1)) + 1 by omega]; rfl
theorem nest_ok (h : PyData.strOk wd = true) : ∀ d, okW (nestT wd z d).W = true ∧ dpW (nestT wd z d).W ≤ 2 * d + 1
  | 0 => ⟨by show (PyData.strOk (Str.ofString "num") && (true && true)) = true; decide +kernel, Nat.le_refl _⟩
  | d + 1 => by
    obtain ⟨h1, h2⟩ := nest_ok h d
    refine ⟨?_, ?_⟩
    · show (PyData.strOk (Str.ofString "of") && (PyData.strOk wd && ((okW (nestT wd z d).W && true) && true))) = true
      rw [h, h1]; decide +kernel
    · show max 0 (max 0 (max (max (dpW (nestT wd z d).W) 0 + 1) 0)) + 1 ≤ 2 * (d + 1) + 1
      omega
end
end SW
namespace SW
open PySem PySem.Spec L2 AL
/-! ### kinds of facts, where knots have no two arms -/
def fsK (ts : List Tm) (ls : List Nat) : List (Str × W) := [("terms", .lst (tW ts)), ("leads", .lst (nW ls))]
def fsN (ts : List Tm) (ls : List Nat) (hd : List Str) : List (Str × W) := [("terms", .lst (tW ts)), ("leads", .lst (nW ls)), ("held", .lst (hd.map W.str))]
theorem n_tl : ¬ (("terms" : Str) = "leads") := by decide +kernel
theorem n_th : ¬ (("terms" : Str) = "held") := by decide +kernel
theorem n_lh : ¬ (("leads" : Str) = "held") := by decide +kernel
structure KT (K : PySem.W.Frag) (C : Addr) : Prop where
  cls : Cls K C
  t : NoAttr K C "terms"
  l : NoAttr K C "leads"
  h : NoAttr K C "held"
theorem fsK_t (ts : List Tm) (ls : List Nat) : (fsK ts ls).lookup ("terms" : Str) = some (.lst (tW ts)) := lkf_eq
theorem fsK_l (ts : List Tm) (ls : List Nat) : (fsK ts ls).lookup ("leads" : Str) = some (.lst (nW ls)) := (lkf_ne (fun h => n_tl h.symm)).trans lkf_eq
theorem fsN_t (ts : List Tm) (ls : List Nat) (hd : List Str) : (fsN ts ls hd).lookup ("terms" : Str) = some (.lst (tW ts)) := lkf_eq
theorem fsN_l (ts : List Tm) (ls : List Nat) (hd : List Str) : (fsN ts ls hd).lookup ("leads" : Str) = some (.lst (nW ls)) := (lkf_ne (fun h => n_tl h.symm)).trans lkf_eq
theorem fsN_h (ts : List Tm) (ls : List Nat) (hd : List Str) : (fsN ts ls hd).lookup ("held" : Str) = some (.lst (hd.map W.str)) := (lkf_ne (fun h => n_th h.symm)).trans ((lkf_ne (fun h => n_lh h.symm)).trans lkf_eq)
theorem fsK_no (ts : List Tm) (ls : List Nat) {m : Str} (h1 : ¬ m = ("terms" : Str)) (h2 : ¬ m = ("leads" : Str)) : (fsK ts ls).lookup m = none := (lkf_ne h1).trans ((lkf_ne h2).trans rfl)
theorem fsN_no (ts : List Tm) (ls : List Nat) (hd : List Str) {m : Str} (h1 : ¬ m = ("terms" : Str)) (h2 : ¬ m = ("leads" : Str)) (h3 : ¬ m = ("held" : Str)) : (fsN ts ls hd).lookup m = none := (lkf_ne h1).trans ((lkf_ne h2).trans ((lkf_ne h3).trans rfl))
def nmT : Tm → List Str
  | .name x => [x]
  | _ => []
def heldM (ts : List Tm) : List Str := ts.flatMap nmT
/-- no knot has two arms -/
def OneT (ts : List Tm) : Prop := ∀ t ∈ ts, (arms t).length ≠ 2
def sgn (n : Int) : Nat := if n < 0 then 1 else if n = 0 then 2 else 4
def opp (f : Nat) : Nat := ((f &&& 1) * 2 ^ 2 ||| (f &&& 2)) ||| (f / 2 ^ 2)
def sgW (t : Tm) (kn : List Nat) : Nat := match t with
  | .num n => sgn n
  | .name _ => 7
  | .of w ks => if w = "neg" ∧ ks.length = 1 then opp (kn.getD (ks.getD 0 0) 0) else 7
def nmW (hd : List Str) (t : Tm) (kn : List Nat) : Nat := match t with
  | .num _ => 0
  | .name x => 1 * 2 ^ (hd.idxOf x)
  | .of _ ks => ks.foldl (fun f k => f ||| kn.getD k 0) 0
theorem fold_st {α β : Type} {f : β → α → β} {zs : List α} {b : β} {m : Nat} {p : α} (h : zs[m]? = some p) : (zs.take (m + 1)).foldl f b = f ((zs.take m).foldl f b) p := by
  rw [List.take_add_one, h, List.foldl_append]; rfl
section
variable {P : Program} {w : World} {K : PySem.W.Frag} {mg : Str → Option Value} {base : Heap}
abbrev sSb0 : Stmt := top 27
theorem sc_sb0 : FnScope ["number"] ["number"] (defScope sSb0) := ⟨rfl, rfl, rfl, by decide +kernel, rfl, by decide +kernel, by decide +kernel⟩
def spSgn : ASp := fun ws G K _ => ∃ n : Int, ws = [.int n] ∧ K (.int (sgn n : Nat)) G
theorem ok_sgn {f : Addr} {fd : FuncData} (F : Fun K "sign_bit" "sign_bit" sSb0 f fd) : FnOk P w K mg base CX0 1 f fd ["number"] (low ⟨P, w, K⟩ spSgn) := by
  refine fnA_of F sc_sb0 (fun ws G Kc KE ⟨_, e, _⟩ => by rw [e]; rfl) fun cdv A outer s H E ws G Kc KE hr ⟨n, e, kk⟩ => ?_
  subst e
  unfold sgn at kk
  refine s_cons (s_if (b_lt (qv 0 rfl (q_int ?_))))
  refine ifB_dec (fun h => s_cons (s_ret (q_int ⟨G, Sub.refl, ?_⟩))) (fun h => s_nil ?_)
  · rw [if_pos h] at kk; exact kk
  rw [if_neg h] at kk
  refine s_cons (s_if (b_eq (u64 hr) (qv 0 rfl (q_int ?_))))
  refine ifB_dec (fun h2 => s_cons (s_ret (q_int ⟨G, Sub.refl, ?_⟩))) (fun h2 => s_nil (s_cons (s_ret (q_int ⟨G, Sub.refl, ?_⟩))))
  · rw [if_pos h2] at kk; exact kk
  · rw [if_neg h2] at kk; exact kk
abbrev sOpp : Stmt := top 31
theorem sc_opp : FnScope ["fact"] ["fact"] (defScope sOpp) := ⟨rfl, rfl, rfl, by decide +kernel, rfl, by decide +kernel, by decide +kernel⟩
def spOpp : ASp := fun ws G K _ => ∃ f : Nat, ws = [.int f] ∧ K (.int (opp f : Nat)) G
theorem bits_small {i : Int} (h0 : 0 ≤ i) (h : i < 2 ^ 64) : (Builtin.Int.intBits i : Int) ≤ 64 := by
  have := (PySem.intBits_le_iff (m := 64) (x := i)).mpr (by omega)
  omega
theorem ok_opp {f : Addr} {fd : FuncData} (F : Fun K "opposite" "opposite" sOpp f fd) : FnOk P w K mg base CX0 1 f fd ["fact"] (low ⟨P, w, K⟩ spOpp) := by
  refine fnA_of F sc_opp (fun ws G Kc KE ⟨_, e, _⟩ => by rw [e]; rfl) fun cdv A outer s H E ws G Kc KE hr ⟨f, e, kk⟩ => ?_
  subst e
  refine s_cons (s_ret (q_bor (q_bor (q_shl (q_band (qv 0 rfl (q_int ⟨f, 1, rfl, rfl, ?_⟩)))))))
  have h1 : f &&& 1 ≤ 1 := Nat.and_le_right
  refine q_int ⟨f &&& 1, 2, rfl, rfl, ⟨by decide, ?_⟩, ?_⟩
  · have := bits_small (i := ((f &&& 1 : Nat) : Int)) (Int.natCast_nonneg _) (by omega)
    omega
  refine q_band (qv 0 rfl (q_int ⟨f, 2, rfl, rfl, _, _, rfl, rfl, ?_⟩))
  exact q_shr (qv 0 rfl (q_int ⟨f, 2, rfl, rfl, _, _, rfl, rfl, G, Sub.refl, kk⟩))
end
end SW
namespace SW
open PySem PySem.Spec L2 AL
section
variable {P : Program} {w : World} {K : PySem.W.Frag} {mg : Str → Option Value} {base : Heap}
/-! ### Kind.__init__, Names.__init__ -/
abbrev sKi : Stmt := inClass (top 32) 0
theorem sc_ki : FnScope ["self", "terms", "leads"] ["self", "terms", "leads"] (defScope sKi) := ⟨rfl, rfl, rfl, by decide +kernel, rfl, by decide +kernel, by decide +kernel⟩
def spKi (C : Addr) : ASp := fun ws G K _ => ∃ (a dx : Addr) (t l : W) (ts : List Tm) (ls : List Nat), ws = [.ref a, t, l] ∧ G a = some (.ins C dx []) ∧ LsA G t (tW ts) ∧ LsA G l (nW ls) ∧ K .non (aup G a (.ins C dx (fsK ts ls)))
theorem pf_tl (x y : W) : pfW "leads" y [(("terms" : Str), x)] = ([("terms", x), ("leads", y)] : List (Str × W)) := by
  show (if ("terms" : Str) = "leads" then [(("terms" : Str), y)] else (("terms" : Str), x) :: pfW "leads" y []) = ([("terms", x), ("leads", y)] : List (Str × W))
  rw [if_neg n_tl]; rfl
theorem pf_tlh (x y z : W) : pfW "held" z ([("terms", x), ("leads", y)] : List (Str × W)) = ([("terms", x), ("leads", y), ("held", z)] : List (Str × W)) := by
  show (if ("terms" : Str) = "held" then [(("terms" : Str), z), ("leads", y)] else (("terms" : Str), x) :: (if ("leads" : Str) = "held" then [(("leads" : Str), z)] else (("leads" : Str), y) :: pfW "held" z [])) = ([("terms", x), ("leads", y), ("held", z)] : List (Str × W))
  rw [if_neg n_th, if_neg n_lh]; rfl
theorem ok_ki {C : Addr} {f : Addr} {fd : FuncData} (F : Fun K "__init__" "Kind.__init__" sKi f fd) (B : Bl mg) (T : KT K C) : FnOk P w K mg base CX0 1 f fd ["self", "terms", "leads"] (low ⟨P, w, K⟩ (spKi C)) := by
  refine fnA_of F sc_ki (fun ws G Kc KE ⟨_, _, _, _, _, _, e, _⟩ => by rw [e]; rfl) fun cdv A outer s H E ws G Kc KE hr ⟨a, dx, t, l, ts, ls, e, ha, hT, hL, kk⟩ => ?_
  subst e
  have nt : t ≠ .ref a := fun z => by subst z; have : G a = some (.lst _) := hT; rw [ha] at this; cases this
  have nl : l ≠ .ref a := fun z => by subst z; have : G a = some (.lst _) := hL; rw [ha] at this; cases this
  refine s_cons (s_fld (q_v (q_list B.list (a_cons (qv 1 rfl (a_nil (fList_ls hT fun p hp => frz_new hp ?_)))))))
  refine qv 0 rfl ⟨a, C, dx, [], rfl, ha, T.cls, T.t, by show 0 < 1000; decide, ?_⟩
  refine s_cons (s_fld (q_v (q_list B.list (a_cons (qv 2 rfl (a_nil (fList_ls (hL.old nl) fun p hp => frz_new hp ?_)))))))
  refine qv 0 rfl ⟨a, C, dx, _, rfl, aup_same, T.cls, T.l, by show 1 < 1000; decide, ?_⟩
  rw [aup_aup, show pfW "leads" (.lst (nW ls)) (pfW "terms" (.lst (tW ts)) []) = fsK ts ls from pf_tl _ _]
  exact s_nil ⟨_, Sub.refl, kk⟩
abbrev sNi : Stmt := inClass (top 34) 0
abbrev nNi : List Str := ["self", "terms", "leads", "term"]
theorem sc_ni : FnScope nNi ["self", "terms", "leads"] (defScope sNi) := ⟨rfl, rfl, rfl, by decide +kernel, rfl, by decide +kernel, by decide +kernel⟩
def spNi (C : Addr) : ASp := fun ws G K _ => ∃ (a dx : Addr) (t l : W) (ts : List Tm) (ls : List Nat), ws = [.ref a, t, l] ∧ G a = some (.ins C dx []) ∧ LsA G t (tW ts) ∧ LsA G l (nW ls) ∧ ts.length ≤ 1000 ∧ K .non (aup G a (.ins C dx (fsN ts ls (heldM ts))))
/-- Kind, by which its own __init__ is read -/
structure KdC (K : PySem.W.Frag) (mg : Str → Option Value) (D g : Addr) : Prop where
  gD : mg "Kind" = some (.ref D)
  cr : ClX.CRead K D (.type "type")
  ca : PySem.W.findCls K (.ref D) (.type "type") "__init__" = some (.val (.ref g))
  kp : PySem.W.keepIn K (.ref g) = true
theorem held_take {ts : List Tm} {i : Nat} {t : Tm} (h : ts[i]? = some t) : heldM (ts.take (i + 1)) = heldM (ts.take i) ++ nmT t := by
  unfold heldM
  rw [List.take_add_one, h, List.flatMap_append]
  simp
theorem held_len (ts : List Tm) : (heldM ts).length ≤ ts.length := by
  induction ts with
  | nil => exact Nat.zero_le _
  | cons t ts ih =>
    have : (nmT t).length ≤ 1 := by cases t <;> simp [nmT]
    show (nmT t ++ heldM ts).length ≤ _
    rw [List.length_append, List.length_cons]; omega
theorem ok_ni {C D g : Addr} {gd : FuncData} {f : Addr} {fd : FuncData} (F : Fun K "__init__" "Names.__init__" sNi f fd) (B : Bl mg) (T : KT K C) (KD : KdC K mg D g) (FK : FnOk P w K mg base CX0 1 g gd ["self", "terms", "leads"] (low ⟨P, w, K⟩ (spKi C))) (hb : Binds K gd ["self", "terms", "leads"] []) : FnOk P w K mg base CX0 2 f fd ["self", "terms", "leads"] (low ⟨P, w, K⟩ (spNi C)) := by
  refine fnA_of F sc_ni (fun ws G Kc KE ⟨_, _, _, _, _, _, e, _⟩ => by rw [e]; rfl) fun cdv A outer s H E ws G Kc KE hr ⟨a, dx, t, l, ts, ls, e, ha, hT, hL, hn, kk⟩ => ?_
  subst e
  have nt : t ≠ .ref a := fun z => by subst z; have : G a = some (.lst _) := hT; rw [ha] at this; cases this
  refine s_cons (s_expr (q_cfn KD.gD KD.cr KD.ca KD.kp FK hr hb (a_cons (qv 0 rfl (a_cons (qv 1 rfl (a_cons (qv 2 rfl (a_nil ⟨a, dx, t, l, ts, ls, rfl, ha, hT, hL, ?_⟩)))))))))
  have hT2 : LsA (aup G a (.ins C dx (fsK ts ls))) t (tW ts) := hT.old nt
  refine s_cons (s_fld (q_v (q_lc sc_ni.nd (blkOk_by (N := nNi) (sc := defScope sNi) (own := [("term", 3)]) (by decide +kernel)) (i_list (qv 1 rfl ⟨_, hT2, ⟨fun Dl hDl => ?_⟩⟩)))))
  have nD : a ≠ Dl := ane_none aup_same hDl
  refine ⟨fun i G' => G' = aup (aup G a (.ins C dx (fsK ts ls))) Dl (.lst ((heldM (ts.take i)).map W.str)), rfl, fun i G' _ e => by rw [e]; exact hT2.new hDl, fun i x G' hx e s0 H0 C0 cl fp => ?_, fun G' e => ?_⟩
  · obtain ⟨u, hu, rfl⟩ := tW_item hx
    subst e
    have il := (List.getElem?_eq_some_iff.mp hu).1
    refine n_name (i := 3) sc_ni.nd fun s1 H1 C1 cl1 fp1 => ts_one (b_eq (u64 hr) (q_ix (qv 3 rfl (q_int ?_))))
    have hl := held_len (ts.take i)
    rw [List.length_take] at hl
    have sz : sizeLine = 16777216 := rfl
    cases u with
    | num n =>
      refine fIx_tup (v := .str "num") rfl (q_str (ifB_F (show decide (Str.ofString "num" = Str.ofString "name") = false from decide_eq_false strs_ne.1) ?_))
      show aup _ Dl _ = aup _ Dl (.lst ((heldM (ts.take (i + 1))).map W.str))
      rw [held_take hu]
      show aup _ Dl _ = aup _ Dl (.lst ((heldM (ts.take i) ++ []).map W.str))
      rw [List.append_nil]
    | name z =>
      refine fIx_tup (v := .str "name") rfl (q_str (ifB_T (show decide (Str.ofString "name" = Str.ofString "name") = true from decide_eq_true rfl) fun s2 H2 C2 cl2 fp2 => ?_))
      refine q_ix (qv 3 rfl (q_int (fIx_tup (v := .str z) rfl ⟨_, aup_same, ?_, ?_⟩)))
      · rw [List.length_map]; omega
      · show aup (aup _ Dl _) Dl _ = aup _ Dl (.lst ((heldM (ts.take (i + 1))).map W.str))
        rw [aup_aup, held_take hu, List.map_append]; rfl
    | of wd ks =>
      refine fIx_tup (v := .str "of") rfl (q_str (ifB_F (show decide (Str.ofString "of" = Str.ofString "name") = false from decide_eq_false fun z => strs_ne.2.2 z.symm) ?_))
      show aup _ Dl _ = aup _ Dl (.lst ((heldM (ts.take (i + 1))).map W.str))
      rw [held_take hu]
      show aup _ Dl _ = aup _ Dl (.lst ((heldM (ts.take i) ++ []).map W.str))
      rw [List.append_nil]
  · subst e
    rw [tW_length, List.take_length]
    refine frz_new hDl ?_
    refine qv 0 rfl ⟨a, C, dx, _, rfl, aup_same, T.cls, T.h, by show 2 < 1000; decide, ?_⟩
    rw [aup_aup, show pfW "held" (.lst ((heldM ts).map W.str)) (fsK ts ls) = fsN ts ls (heldM ts) from pf_tlh _ _ _]
    exact s_nil ⟨_, Sub.refl, kk⟩
/-! ### the methods of Signs -/
abbrev sSt : Stmt := inClass (top 33) 0
theorem sc_st : FnScope ["self"] ["self"] (defScope sSt) := ⟨rfl, rfl, rfl, by decide +kernel, rfl, by decide +kernel, by decide +kernel⟩
def spTop (C : Addr) (fs : List (Str × W)) (v : Nat) : ASp := fun ws G K _ => ∃ (a dx : Addr), ws = [.ref a] ∧ G a = some (.ins C dx fs) ∧ K (.int v) G
theorem ok_st {C : Addr} {f : Addr} {fd : FuncData} (F : Fun K "top" "Signs.top" sSt f fd) : FnOk P w K mg base CX0 1 f fd ["self"] (low ⟨P, w, K⟩ (fun ws G K KE => ∃ fs, spTop C fs 7 ws G K KE)) := by
  refine fnA_of F sc_st (fun ws G Kc KE ⟨_, _, _, e, _⟩ => by rw [e]; rfl) fun cdv A outer s H E ws G Kc KE hr ⟨fs, a, dx, e, ha, kk⟩ => ?_
  subst e
  exact s_cons (s_ret (q_int ⟨G, Sub.refl, kk⟩))
abbrev sSw : Stmt := inClass (top 33) 1
abbrev nSw : List Str := ["self", "term", "known", "word", "facts", "arm"]
theorem sc_sw : FnScope nSw ["self", "term", "known"] (defScope sSw) := ⟨rfl, rfl, rfl, by decide +kernel, rfl, by decide +kernel, by decide +kernel⟩
def spWo (C : Addr) (fs : List (Str × W)) (n : Nat) (wo : Tm → List Nat → Nat) : ASp := fun ws G K _ => ∃ (a dx : Addr) (t : Tm) (kn : W) (kl : List Nat), ws = [.ref a, t.W, kn] ∧ G a = some (.ins C dx fs) ∧ LsA G kn (nW kl) ∧ kl.length = n ∧ (∀ k ∈ arms t, k < n) ∧ (arms t).length ≠ 2 ∧ (arms t).length ≤ 4 ∧ K (.int (wo t kl : Nat)) G
theorem ok_sw {C : Addr} {f : Addr} {fd : FuncData} (F : Fun K "worth" "Signs.worth" sSw f fd) (B : Bl mg) (CS : Cal P w K mg base "sign_bit" 1 ["number"] spSgn) (CO : Cal P w K mg base "opposite" 1 ["fact"] spOpp) : FnOk P w K mg base CX0 2 f fd ["self", "term", "known"] (low ⟨P, w, K⟩ (fun ws G K KE => ∃ fs n, spWo C fs n sgW ws G K KE)) := by
  refine fnA_of F sc_sw (fun ws G Kc KE ⟨_, _, _, _, _, _, _, e, _⟩ => by rw [e]; rfl) fun cdv A outer s H E ws G Kc KE hr ⟨fs, n, a, dx, t, kn, kl, e, ha, hK, hkl, har, h2, h4, kk⟩ => ?_
  subst e
  refine s_cons (s_if (b_eq (u64 hr) (q_ix (qv 1 rfl (q_int ?_)))))
  cases t with
  | num z =>
    refine fIx_tup (v := .str "num") rfl (q_str (ifB_T (show decide (Str.ofString "num" = Str.ofString "num") = true from decide_eq_true rfl) (s_cons (s_ret (q_cal CS hr (a_cons (q_ix (qv 1 rfl (q_int (fIx_tup (v := .int z) rfl (a_nil ⟨z, rfl, G, Sub.refl, kk⟩)))))))))))
  | name x =>
    refine fIx_tup (v := .str "name") rfl (q_str (ifB_F (show decide (Str.ofString "name" = Str.ofString "num") = false from decide_eq_false fun z => strs_ne.1 z.symm) (s_nil ?_)))
    refine s_cons (s_if (b_eq (u64 hr) (q_ix (qv 1 rfl (q_int (fIx_tup (v := .str "name") rfl (q_str (ifB_T (show decide (Str.ofString "name" = Str.ofString "name") = true from decide_eq_true rfl) (s_cons (s_ret (q_int ⟨G, Sub.refl, kk⟩)))))))))))
  | of wd ks =>
    have har : ∀ k ∈ ks, k < n := har
    have h2 : ks.length ≠ 2 := h2
    have h4 : ks.length ≤ 4 := h4
    refine fIx_tup (v := .str "of") rfl (q_str (ifB_F (show decide (Str.ofString "of" = Str.ofString "num") = false from decide_eq_false fun z => strs_ne.2.1 z.symm) (s_nil ?_)))
    refine s_cons (s_if (b_eq (u64 hr) (q_ix (qv 1 rfl (q_int (fIx_tup (v := .str "of") rfl (q_str (ifB_F (show decide (Str.ofString "of" = Str.ofString "name") = false from decide_eq_false fun z => strs_ne.2.2 z.symm) (s_nil ?_)))))))))
    refine s_cons (s_set (i := 3) sc_sw.nd (q_ix (qv 1 rfl (q_int (fIx_tup (v := .str wd) rfl ?_)))))
    refine s_cons (s_setLc (i := 4) sc_sw.nd (blkOk_by (N := nSw) (sc := defScope sSw) (own := [("arm", 5)]) (by decide +kernel)) (i_tup (q_ix (qv 1 rfl (q_int (fIx_tup (v := .tup (nW ks)) rfl ?_))))))
    refine lk_mapZ (zs := ks) (fun k => W.int (k : Nat)) (fun k => W.int (kl.getD k 0 : Nat)) sc_sw.nd (by omega) (fun _ _ _ => trivial) (fun k hk D ws hD s0 H0 C0 cl fp => ?_) (fun D hD => ?_)
    · exact q_ix (qv 2 rfl (qv 5 rfl (fIx_ls (hK.new hD) (nW_at (by rw [hkl]; exact har k hk)) ⟨rfl, rfl⟩)))
    have e4 : (ks.map fun k => W.int (kl.getD k 0 : Nat)) = nW (ks.map fun k => kl.getD k 0) := by unfold nW; rw [List.map_map]; rfl
    rw [e4]
    have l4 : (nW (ks.map fun k => kl.getD k 0)).length = ks.length := by rw [nW_length, List.length_map]
    refine s_frz 4 rfl aup_same ?_
    rw [adel_aup hD]
    have two : ∀ {G' : AH} {K : Bool → AH → Prop}, K false G' → fEq (.int ((nW (ks.map fun k => kl.getD k 0)).length : Nat)) (.int 2) G' (tst K) := fun {G' K} k => by
      show K (decide (((nW (ks.map fun k => kl.getD k 0)).length : Int) = 2)) G'
      rw [decide_eq_false (by rw [l4]; omega)]; exact k
    have tail : ∀ {sts : List Stmt}, True → True := fun _ => trivial
    refine s_cons (s_if (WQ.test (w_and (b_eq (u64 hr) (qv 3 rfl (q_str ?_))))))
    have rest : ∀ {A' : AEnds}, (∀ v, v = W.int (7 : Nat) → A'.rt v G) → SQ (cxOf CX0 P w K mg base nSw "Signs.worth" (defScope sSw) f cdv A outer s H E).nox ((defBody sSw).drop 5) [some (.ref a), some (Tm.of wd ks).W, some kn, some (.str wd), some (.lst (nW (ks.map fun k => kl.getD k 0))), none] G A' := fun {A'} k7 => by
      refine s_cons (s_if (WQ.test (w_and (b_eq (u64 hr) (qv 3 rfl (q_str ?_))))))
      refine ifB_of (fun _ => w_and1 (b_eq (u64 hr) (q_len B.len (a_cons (qv 4 rfl (a_nil (fLen_ls (xs := nW (ks.map fun k => kl.getD k 0)) rfl (q_int (two ?_))))))))) (fun _ => ?_)
      · refine ifB_F rfl (s_nil ?_)
        refine s_cons (s_if (WQ.test (w_and (b_eq (u64 hr) (qv 3 rfl (q_str ?_))))))
        refine ifB_of (fun _ => w_and1 (b_eq (u64 hr) (q_len B.len (a_cons (qv 4 rfl (a_nil (fLen_ls (xs := nW (ks.map fun k => kl.getD k 0)) rfl (q_int (two ?_))))))))) (fun _ => ?_)
        · exact ifB_F rfl (s_nil (s_cons (s_ret (q_int (k7 _ rfl)))))
        · exact ifB_F rfl (s_nil (s_cons (s_ret (q_int (k7 _ rfl)))))
      · refine ifB_F rfl (s_nil ?_)
        refine s_cons (s_if (WQ.test (w_and (b_eq (u64 hr) (qv 3 rfl (q_str ?_))))))
        refine ifB_of (fun _ => w_and1 (b_eq (u64 hr) (q_len B.len (a_cons (qv 4 rfl (a_nil (fLen_ls (xs := nW (ks.map fun k => kl.getD k 0)) rfl (q_int (two ?_))))))))) (fun _ => ?_)
        · exact ifB_F rfl (s_nil (s_cons (s_ret (q_int (k7 _ rfl)))))
        · exact ifB_F rfl (s_nil (s_cons (s_ret (q_int (k7 _ rfl)))))
    have seven : ¬ (wd = "neg" ∧ ks.length = 1) → ∀ v, v = W.int (7 : Nat) → ∃ G'', Sub G'' G ∧ Kc v G'' := fun hc v e => by
      subst e
      refine ⟨G, Sub.refl, ?_⟩
      have : sgW (.of wd ks) kl = 7 := if_neg hc
      rw [this] at kk; exact kk
    refine ifB_dec (fun hw => w_and1 (b_eq (u64 hr) (q_len B.len (a_cons (qv 4 rfl (a_nil (fLen_ls (xs := nW (ks.map fun k => kl.getD k 0)) rfl (q_int ?_)))))))) (fun hw => ?_)
    · rw [l4]
      refine ifB_dec (fun h1 => ?_) (fun h1 => s_nil (rest (seven fun z => h1 (by omega))))
      have h1 : ks.length = 1 := by omega
      have e0 : atI (nW (ks.map fun k => kl.getD k 0)) 0 = some (.int (kl.getD (ks.getD 0 0) 0 : Nat)) := by
        match ks, h1 with
        | [k], _ => rfl
      refine s_cons (s_ret (q_cal CO hr (a_cons (q_ix (qv 4 rfl (q_int (fIx_ls (xs := nW (ks.map fun k => kl.getD k 0)) rfl e0 (a_nil ⟨_, rfl, G, Sub.refl, ?_⟩))))))))
      have : sgW (.of wd ks) kl = opp (kl.getD (ks.getD 0 0) 0) := if_pos ⟨hw, h1⟩
      rw [this] at kk; exact kk
    · exact ifB_F rfl (s_nil (rest (seven fun z => hw z.1)))
end
end SW
namespace SW
open PySem PySem.Spec L2 AL
theorem FnOk.impA {P : Program} {w : World} {K : PySem.W.Frag} {mg : Str → Option Value} {base : Heap} {CX : CXT} {k : Nat} {f : Addr} {fd : FuncData} {ps : List Str} {sp sp' : ASp} (h : FnOk P w K mg base CX k f fd ps (low ⟨P, w, K⟩ sp)) (i : ∀ ws G K KE, sp' ws G K KE → sp ws G K KE) : FnOk P w K mg base CX k f fd ps (low ⟨P, w, K⟩ sp') :=
  have low' : ∀ vs H Q E, low ⟨P, w, K⟩ sp' vs H Q E → low ⟨P, w, K⟩ sp vs H Q E := fun vs H Q E ⟨ws, G, Kc, KE, h1, h2, h3, h4⟩ => ⟨ws, G, Kc, KE, h1, h2, i _ _ _ _ h3, h4⟩
  ⟨fun vs H Q E z => h.len vs H Q E (low' _ _ _ _ z), fun A outer s H args us vs Q E a b c d e => h.run A outer s H args us vs Q E a b c d (low' _ _ _ _ e)⟩
theorem _root_.AL.Mtd.imp {P : Program} {w : World} {K : PySem.W.Frag} {mg : Str → Option Value} {base : Heap} {C : Addr} {m : Str} {k : Nat} {ps : List Str} {sp sp' : ASp} (h : Mtd P w K mg base C m k ps sp) (i : ∀ ws G K KE, sp' ws G K KE → sp ws G K KE) : Mtd P w K mg base C m k ps sp' :=
  let ⟨f, fd, a, b, c⟩ := h.ex
  ⟨h.cls, f, fd, a, FnOk.impA b i, c⟩
theorem idx_at {x : Str} : ∀ {xs : List Str}, x ∈ xs → xs[xs.idxOf x]? = some x ∧ ∀ m, m < xs.idxOf x → xs[m]? ≠ some x
  | [], h => by cases h
  | y :: xs, h => by
    rw [List.idxOf_cons]
    by_cases c : y = x
    · have : (y == x) = true := beq_iff_eq.mpr c
      rw [this]
      exact ⟨by rw [c]; rfl, fun m hm => absurd hm (Nat.not_lt_zero _)⟩
    · have : (y == x) = false := beq_eq_false_iff_ne.mpr c
      rw [this]
      have h2 : x ∈ xs := by
        rcases List.mem_cons.mp h with e | e
        · exact absurd e.symm c
        · exact e
      obtain ⟨i1, i2⟩ := idx_at h2
      refine ⟨i1, fun m hm => ?_⟩
      cases m with
      | zero => intro z; exact c (Option.some.inj z)
      | succ m => exact i2 m (Nat.lt_of_succ_lt_succ hm)
def topM (hd : List Str) : Nat := 2 ^ hd.length - 1
section
variable {P : Program} {w : World} {K : PySem.W.Frag} {mg : Str → Option Value} {base : Heap}
/-! ### the methods of Names -/
structure NmAt (G : AH) (a C : Addr) (ts : List Tm) (ls : List Nat) (hd : List Str) : Prop where
  ex : ∃ dx, G a = some (.ins C dx (fsN ts ls hd))
theorem shl1 {n : Nat} (h : n ≤ 100000) : CShl ((1 : Nat) : Int) (n : Int) := ⟨Int.natCast_nonneg _, by
  have := bits_small (i := ((1 : Nat) : Int)) (by decide) (by decide)
  omega⟩
abbrev sNt : Stmt := inClass (top 34) 1
theorem sc_nt : FnScope ["self"] ["self"] (defScope sNt) := ⟨rfl, rfl, rfl, by decide +kernel, rfl, by decide +kernel, by decide +kernel⟩
def spNt (C : Addr) : ASp := fun ws G K _ => ∃ (a dx : Addr) (ts : List Tm) (ls : List Nat) (hd : List Str), ws = [.ref a] ∧ G a = some (.ins C dx (fsN ts ls hd)) ∧ hd.length ≤ 1000 ∧ K (.int (topM hd : Nat)) G
theorem ok_nt {C : Addr} {f : Addr} {fd : FuncData} (F : Fun K "top" "Names.top" sNt f fd) (B : Bl mg) (T : KT K C) : FnOk P w K mg base CX0 1 f fd ["self"] (low ⟨P, w, K⟩ (spNt C)) := by
  refine fnA_of F sc_nt (fun ws G Kc KE ⟨_, _, _, _, _, e, _⟩ => by rw [e]; rfl) fun cdv A outer s H E ws G Kc KE hr ⟨a, dx, ts, ls, hd, e, ha, hn, kk⟩ => ?_
  subst e
  refine s_cons (s_ret (q_sub (q_shl (q_int (q_len B.len (a_cons (q_fld (qv 0 rfl ⟨a, C, dx, _, _, rfl, ha, T.cls, T.h, fsN_h ts ls hd, a_nil (fLen_ls (xs := hd.map W.str) rfl ?_)⟩))))))))
  rw [List.length_map]
  refine ⟨1, hd.length, rfl, rfl, shl1 (by omega), q_int ⟨G, Sub.refl, ?_⟩⟩
  have : ((1 * 2 ^ hd.length : Nat) : Int) - 1 = ((topM hd : Nat) : Int) := by
    have : 1 ≤ 2 ^ hd.length := Nat.one_le_two_pow
    unfold topM; omega
  rw [this]; exact kk
abbrev sBo : Stmt := inClass (top 34) 2
theorem sc_bo : FnScope ["self", "name"] ["self", "name"] (defScope sBo) := ⟨rfl, rfl, rfl, by decide +kernel, rfl, by decide +kernel, by decide +kernel⟩
def spBo (C : Addr) : ASp := fun ws G K _ => ∃ (a dx : Addr) (ts : List Tm) (ls : List Nat) (hd : List Str) (x : Str), ws = [.ref a, .str x] ∧ G a = some (.ins C dx (fsN ts ls hd)) ∧ hd.length ≤ 1000 ∧ x ∈ hd ∧ K (.int (1 * 2 ^ hd.idxOf x : Nat)) G
theorem ok_bo {C : Addr} {f : Addr} {fd : FuncData} (F : Fun K "bit_of" "Names.bit_of" sBo f fd) (B : Bl mg) (T : KT K C) : FnOk P w K mg base CX0 1 f fd ["self", "name"] (low ⟨P, w, K⟩ (spBo C)) := by
  refine fnA_of F sc_bo (fun ws G Kc KE ⟨_, _, _, _, _, _, e, _⟩ => by rw [e]; rfl) fun cdv A outer s H E ws G Kc KE hr ⟨a, dx, ts, ls, hd, x, e, ha, hn, hx, kk⟩ => ?_
  subst e
  obtain ⟨i1, i2⟩ := idx_at hx
  have il : hd.idxOf x < hd.length := (List.getElem?_eq_some_iff.mp i1).1
  refine s_cons (s_ret (q_shl (q_int (q_indexS PySem.F.slot_list_index PySem.F.type_list_index (q_fld (qv 0 rfl ⟨a, C, dx, _, _, rfl, ha, T.cls, T.h, fsN_h ts ls hd, hd, rfl, a_cons (qv 1 rfl (a_nil ⟨x, hd.idxOf x, rfl, rfl, i1, i2, ?_⟩))⟩))))))
  exact ⟨1, _, rfl, rfl, shl1 (by omega), G, Sub.refl, kk⟩
abbrev sNw : Stmt := inClass (top 34) 4
abbrev nNw : List Str := ["self", "term", "known", "arms", "fact", "arm"]
theorem sc_nw : FnScope nNw ["self", "term", "known"] (defScope sNw) := ⟨rfl, rfl, rfl, by decide +kernel, rfl, by decide +kernel, by decide +kernel⟩
def spNw (C : Addr) : ASp := fun ws G K _ => ∃ (a dx : Addr) (ts : List Tm) (ls : List Nat) (hd : List Str) (t : Tm) (kn : W) (kl : List Nat), ws = [.ref a, t.W, kn] ∧ G a = some (.ins C dx (fsN ts ls hd)) ∧ hd.length ≤ 1000 ∧ LsA G kn (nW kl) ∧ (∀ k ∈ arms t, k < kl.length) ∧ (arms t).length ≠ 2 ∧ (∀ x, t = .name x → x ∈ hd) ∧ K (.int (nmW hd t kl : Nat)) G
theorem ok_nw {C : Addr} {f : Addr} {fd : FuncData} (F : Fun K "worth" "Names.worth" sNw f fd) (B : Bl mg) (MB : Mtd P w K mg base C "bit_of" 1 ["self", "name"] (spBo C)) : FnOk P w K mg base CX0 2 f fd ["self", "term", "known"] (low ⟨P, w, K⟩ (spNw C)) := by
  refine fnA_of F sc_nw (fun ws G Kc KE ⟨_, _, _, _, _, _, _, _, e, _⟩ => by rw [e]; rfl) fun cdv A outer s H E ws G Kc KE hr ⟨a, dx, ts, ls, hd, t, kn, kl, e, ha, hn, hK, har, h2, hx, kk⟩ => ?_
  subst e
  refine s_cons (s_if (b_eq (u64 hr) (q_ix (qv 1 rfl (q_int ?_)))))
  cases t with
  | num z =>
    exact fIx_tup (v := .str "num") rfl (q_str (ifB_T (show decide (Str.ofString "num" = Str.ofString "num") = true from decide_eq_true rfl) (s_cons (s_ret (q_int ⟨G, Sub.refl, kk⟩)))))
  | name x =>
    refine fIx_tup (v := .str "name") rfl (q_str (ifB_F (show decide (Str.ofString "name" = Str.ofString "num") = false from decide_eq_false fun z => strs_ne.1 z.symm) (s_nil ?_)))
    refine s_cons (s_if (b_eq (u64 hr) (q_ix (qv 1 rfl (q_int (fIx_tup (v := .str "name") rfl (q_str (ifB_T (show decide (Str.ofString "name" = Str.ofString "name") = true from decide_eq_true rfl) ?_))))))))
    refine s_cons (s_ret (q_meth MB hr (qv 0 rfl ⟨a, dx, _, rfl, ha, fsN_no ts ls hd (by decide +kernel) (by decide +kernel) (by decide +kernel), a_cons (q_ix (qv 1 rfl (q_int (fIx_tup (v := .str x) rfl ?_))))⟩)))
    exact a_nil ⟨a, dx, ts, ls, hd, x, rfl, ha, hn, hx x rfl, G, Sub.refl, kk⟩
  | of wd ks =>
    have har : ∀ k ∈ ks, k < kl.length := har
    have h2 : ks.length ≠ 2 := h2
    refine fIx_tup (v := .str "of") rfl (q_str (ifB_F (show decide (Str.ofString "of" = Str.ofString "num") = false from decide_eq_false fun z => strs_ne.2.1 z.symm) (s_nil ?_)))
    refine s_cons (s_if (b_eq (u64 hr) (q_ix (qv 1 rfl (q_int (fIx_tup (v := .str "of") rfl (q_str (ifB_F (show decide (Str.ofString "of" = Str.ofString "name") = false from decide_eq_false fun z => strs_ne.2.2 z.symm) (s_nil ?_)))))))))
    refine s_cons (s_set (i := 3) sc_nw.nd (q_ix (qv 1 rfl (q_int (fIx_tup (v := .tup (nW ks)) rfl ?_)))))
    refine s_cons (s_if (WQ.test (w_and (b_eq (u64 hr) (q_ix (qv 1 rfl (q_int (fIx_tup (v := .str wd) rfl (q_str ?_)))))))))
    have rest : SQ (cxOf CX0 P w K mg base nNw "Names.worth" (defScope sNw) f cdv A outer s H E).nox ((defBody sNw).drop 4) [some (.ref a), some (Tm.of wd ks).W, some kn, some (.tup (nW ks)), none, none] G { nx := fun _ G' => ∃ G'', Sub G'' G' ∧ Kc .non G'', rt := fun v G' => ∃ G'', Sub G'' G' ∧ Kc v G'' } := by
      refine s_cons (s_set (i := 4) sc_nw.nd (q_int ?_))
      refine s_cons (s_for PassesOwn.never rfl (i_tup (qv 3 rfl ?_)))
      refine ⟨fun i ρ' G' => ∃ v5, ρ' = [some (.ref a), some (Tm.of wd ks).W, some kn, some (.tup (nW ks)), some (.int (((ks.take i).foldl (fun f k => f ||| kl.getD k 0) 0 : Nat) : Int)), v5] ∧ G' = G, ⟨none, rfl, rfl⟩, fun _ _ _ _ _ => trivial, fun i x ρ' G' hx ⟨v5, e1, e2⟩ => ?_, fun ρ' G' ⟨v5, e1, e2⟩ => ?_⟩
      · obtain ⟨k, hk, rfl⟩ := nW_item hx
        subst e1 e2
        refine g_name (i := 5) sc_nw.nd ?_
        refine s_cons (s_set (i := 4) sc_nw.nd (q_bor (qv 4 rfl (q_ix (qv 2 rfl (qv 5 rfl (fIx_ls hK (nW_at (har k (List.mem_of_getElem? hk))) ⟨_, _, rfl, rfl, ?_⟩)))))))
        refine s_nil ⟨some (.int k), ?_, rfl⟩
        rw [fold_st hk]; rfl
      · rw [nW_length, List.take_length] at e1
        subst e1 e2
        exact s_cons (s_ret (qv 4 rfl ⟨_, Sub.refl, kk⟩))
    refine ifB_of (fun _ => w_and1 (b_eq (u64 hr) (q_len B.len (a_cons (qv 3 rfl (a_nil ?_)))))) (fun _ => ifB_F rfl (s_nil rest))
    show EQ _ _ _ _ _
    refine q_int ?_
    show ifB (decide (((nW ks).length : Int) = 2)) _ _
    exact ifB_dec (fun h => absurd h (by rw [nW_length]; omega)) (fun _ => s_nil rest)
abbrev sFr0 : Stmt := inClass (top 34) 5
theorem sc_fre : FnScope ["self", "known", "k", "name"] ["self", "known", "k", "name"] (defScope sFr0) := ⟨rfl, rfl, rfl, by decide +kernel, rfl, by decide +kernel, by decide +kernel⟩
def spFre (C : Addr) : ASp := fun ws G K _ => ∃ (a dx : Addr) (ts : List Tm) (ls : List Nat) (hd : List Str) (kn : W) (kl : List Nat) (k : Nat) (x : Str), ws = [.ref a, kn, .int k, .str x] ∧ G a = some (.ins C dx (fsN ts ls hd)) ∧ hd.length ≤ 1000 ∧ LsA G kn (nW kl) ∧ k < kl.length ∧ x ∈ hd ∧ (∀ y ∈ hd, PyData.strOk y = true) ∧ K (.bl (decide (kl.getD k 0 &&& 1 * 2 ^ hd.idxOf x = 0))) G
theorem okWs_strs : ∀ {xs : List Str}, (∀ y ∈ xs, PyData.strOk y = true) → okWs (xs.map W.str) = true ∧ dpWs (xs.map W.str) = 0
  | [], _ => ⟨rfl, rfl⟩
  | x :: xs, h => by
    obtain ⟨a, b⟩ := okWs_strs (xs := xs) fun y hy => h y (List.mem_cons_of_mem _ hy)
    refine ⟨?_, ?_⟩
    · show (PyData.strOk x && okWs (xs.map W.str)) = true
      rw [h x List.mem_cons_self, a]; rfl
    · show max 0 (dpWs (xs.map W.str)) = 0
      rw [b]; rfl
theorem ok_fre {C : Addr} {f : Addr} {fd : FuncData} (F : Fun K "free" "Names.free" sFr0 f fd) (B : Bl mg) (T : KT K C) (MB : Mtd P w K mg base C "bit_of" 1 ["self", "name"] (spBo C)) : FnOk P w K mg base CX0 2 f fd ["self", "known", "k", "name"] (low ⟨P, w, K⟩ (spFre C)) := by
  refine fnA_of F sc_fre (fun ws G Kc KE ⟨_, _, _, _, _, _, _, _, _, e, _⟩ => by rw [e]; rfl) fun cdv A outer s H E ws G Kc KE hr ⟨a, dx, ts, ls, hd, kn, kl, k, x, e, ha, hn, hK, hk, hx, hs, kk⟩ => ?_
  subst e
  obtain ⟨o1, o2⟩ := okWs_strs hs
  refine s_cons (s_if (b_nin (u65 hr) (qv 3 rfl (q_fld (qv 0 rfl ⟨a, C, dx, _, _, rfl, ha, T.cls, T.h, fsN_h ts ls hd, fIn_ok (xs := hd.map W.str) rfl ?_ ?_⟩)))))
  · show (PyData.strOk x && Nat.ble 0 60 && (okWs (hd.map W.str) && Nat.ble (dpWs (hd.map W.str)) 60)) = true
    rw [hs x hx, o1, o2]; rfl
  · have : ((hd.map W.str).any fun z => eqW z (.str x)) = true := List.any_eq_true.mpr ⟨.str x, List.mem_map_of_mem hx, eqW_self _⟩
    show ifB (!((hd.map W.str).any fun z => eqW z (.str x))) _ _
    rw [this]
    refine ifF (s_nil ?_)
    refine s_cons (s_ret (q_eq (u64 hr) (q_band (q_ix (qv 1 rfl (qv 2 rfl (fIx_ls hK (nW_at hk) ?_)))))))
    refine q_meth MB hr (qv 0 rfl ⟨a, dx, _, rfl, ha, fsN_no ts ls hd (by decide +kernel) (by decide +kernel) (by decide +kernel), a_cons (qv 3 rfl (a_nil ⟨a, dx, ts, ls, hd, x, rfl, ha, hn, hx, ?_⟩))⟩)
    refine ⟨_, _, rfl, rfl, q_int ⟨G, Sub.refl, ?_⟩⟩
    have : decide ((((kl.getD k 0 &&& 1 * 2 ^ hd.idxOf x : Nat)) : Int) = 0) = decide (kl.getD k 0 &&& 1 * 2 ^ hd.idxOf x = 0) := decide_eq_decide.mpr (by omega)
    show Kc (.bl (decide ((((kl.getD k 0 &&& 1 * 2 ^ hd.idxOf x : Nat)) : Int) = 0))) G
    rw [this]; exact kk
end
end SW
namespace SW
open PySem PySem.Spec L2 AL
/-! ### what is learned, plainly -/
def sprM (ls kn : List Nat) (k f : Nat) : List Nat := (List.range kn.length).map fun p => if Lf ls p = Lf ls k then f else kn.getD p 0
theorem sprM_len (ls kn : List Nat) (k f : Nat) : (sprM ls kn k f).length = kn.length := by unfold sprM; rw [List.length_map, List.length_range]
theorem sprM_at {ls kn : List Nat} {k f p : Nat} (h : p < kn.length) : (sprM ls kn k f).getD p 0 = if Lf ls p = Lf ls k then f else kn.getD p 0 := by
  have : (sprM ls kn k f)[p]? = some (if Lf ls p = Lf ls k then f else kn.getD p 0) := by
    unfold sprM; rw [List.getElem?_map, List.getElem?_range h]; rfl
  rw [List.getD_eq_getElem?_getD, this]; rfl
inductive LnP (ts : List Tm) (ls : List Nat) (wo : Tm → List Nat → Nat) (k0 : List Nat) : List (Nat × Nat) → List Nat → Prop
  | nil : LnP ts ls wo k0 [] k0
  | snoc {st : List (Nat × Nat)} {kn : List Nat} {k : Nat} : LnP ts ls wo k0 st kn → k < ts.length → kn.getD k 0 &&& wo (tmAt ts k) kn ≠ kn.getD k 0 →
      LnP ts ls wo k0 (st ++ [(k, kn.getD k 0 &&& wo (tmAt ts k) kn)]) (sprM ls kn k (kn.getD k 0 &&& wo (tmAt ts k) kn))
structure LnR (ts : List Tm) (ls : List Nat) (top : Nat) (wo : Tm → List Nat → Nat) (st : List (Nat × Nat)) (kn : List Nat) : Prop where
  way : LnP ts ls wo (List.replicate ts.length top) st kn
  fix : ∀ k, k < ts.length → kn.getD k 0 &&& wo (tmAt ts k) kn = kn.getD k 0
def bc : Nat → Nat → Nat
  | 0, _ => 0
  | b + 1, x => x % 2 + bc b (x / 2)
theorem bc_le : ∀ b x, bc b x ≤ b
  | 0, _ => Nat.le_refl _
  | b + 1, x => by
    show x % 2 + bc b (x / 2) ≤ b + 1
    have := bc_le b (x / 2)
    omega
theorem bc_and : ∀ b x y, bc b (x &&& y) ≤ bc b x ∧ (x < 2 ^ b → x &&& y ≠ x → bc b (x &&& y) < bc b x)
  | 0, x, y => ⟨Nat.le_refl _, fun h n => by
    have : x = 0 := by simpa using h
    subst this; simp at n⟩
  | b + 1, x, y => by
    obtain ⟨i1, i2⟩ := bc_and b (x / 2) (y / 2)
    have e1 : (x &&& y) / 2 = x / 2 &&& y / 2 := Nat.and_div_two
    have e2 : (x &&& y) % 2 = x % 2 &&& y % 2 := Nat.and_mod_two_pow (n := 1) (a := x) (b := y)
    have e3 : x % 2 &&& y % 2 ≤ x % 2 := Nat.and_le_left
    refine ⟨?_, fun h n => ?_⟩
    · show (x &&& y) % 2 + bc b ((x &&& y) / 2) ≤ x % 2 + bc b (x / 2)
      rw [e1, e2]; omega
    · show (x &&& y) % 2 + bc b ((x &&& y) / 2) < x % 2 + bc b (x / 2)
      rw [e1, e2]
      by_cases c : x / 2 &&& y / 2 = x / 2
      · have : x % 2 &&& y % 2 ≠ x % 2 := fun z => n (by omega)
        rw [c]; omega
      · have := i2 (by rw [Nat.pow_succ] at h; omega) c
        omega
/-- how many bits are known in all -/
def bcs (b : Nat) (kn : List Nat) : Nat := (kn.map (bc b)).sum
structure LnG (n : Nat) (ls : List Nat) (b : Nat) (kn : List Nat) : Prop where
  len : kn.length = n
  uni : ∀ i j, i < n → j < n → Lf ls i = Lf ls j → kn.getD i 0 = kn.getD j 0
  lt : ∀ i, i < n → kn.getD i 0 < 2 ^ b
theorem sum_getD (f : Nat → Nat) (kn : List Nat) : (kn.map f).sum = ((List.range kn.length).map fun p => f (kn.getD p 0)).sum := by
  congr 1
  refine List.ext_getElem (by simp) fun i h1 h2 => ?_
  rw [List.length_map] at h1
  rw [List.getElem_map, List.getElem_map, List.getElem_range, List.getD_eq_getElem?_getD, List.getElem?_eq_getElem h1]; rfl
theorem sum_lt_of : ∀ {l : List Nat} {f g : Nat → Nat}, (∀ x ∈ l, f x ≤ g x) → (∃ x ∈ l, f x < g x) → (l.map f).sum < (l.map g).sum
  | [], _, _, _, ⟨_, h, _⟩ => by cases h
  | x :: l, f, g, h, ⟨y, hy, hl⟩ => by
    rw [List.map_cons, List.map_cons, List.sum_cons, List.sum_cons]
    have h1 := h x List.mem_cons_self
    have le : ∀ {l : List Nat}, (∀ x ∈ l, f x ≤ g x) → (l.map f).sum ≤ (l.map g).sum := fun {l} hh => by
      induction l with
      | nil => exact Nat.le_refl _
      | cons a r ih =>
        rw [List.map_cons, List.map_cons, List.sum_cons, List.sum_cons]
        have := hh a List.mem_cons_self
        have := ih fun z hz => hh z (List.mem_cons_of_mem _ hz)
        omega
    rcases List.mem_cons.mp hy with e | hy
    · subst e
      have := le (l := l) fun z hz => h z (List.mem_cons_of_mem _ hz)
      omega
    · have := sum_lt_of (l := l) (fun z hz => h z (List.mem_cons_of_mem _ hz)) ⟨y, hy, hl⟩
      omega
theorem LnG.step {n : Nat} {ls : List Nat} {b : Nat} {kn : List Nat} (g : LnG n ls b kn) {k y : Nat} (hk : k < n) (hne : kn.getD k 0 &&& y ≠ kn.getD k 0) : LnG n ls b (sprM ls kn k (kn.getD k 0 &&& y)) ∧ bcs b (sprM ls kn k (kn.getD k 0 &&& y)) < bcs b kn := by
  have at' : ∀ p, p < n → (sprM ls kn k (kn.getD k 0 &&& y)).getD p 0 = if Lf ls p = Lf ls k then kn.getD k 0 &&& y else kn.getD p 0 := fun p hp => sprM_at (by rw [g.len]; exact hp)
  refine ⟨⟨by rw [sprM_len]; exact g.len, fun i j hi hj e => ?_, fun i hi => ?_⟩, ?_⟩
  · rw [at' i hi, at' j hj, e]
    split
    · rfl
    · exact g.uni i j hi hj e
  · rw [at' i hi]
    split
    · exact Nat.lt_of_le_of_lt Nat.and_le_left (g.lt k hk)
    · exact g.lt i hi
  · unfold bcs
    rw [sum_getD (bc b) (sprM ls kn k (kn.getD k 0 &&& y)), sum_getD (bc b) kn, sprM_len, g.len]
    refine sum_lt_of (fun p hp => ?_) ⟨k, List.mem_range.mpr hk, ?_⟩
    · have hp := List.mem_range.mp hp
      rw [at' p hp]
      split
      · rename_i c
        rw [g.uni p k hp hk c]
        exact (bc_and b _ _).1
      · exact Nat.le_refl _
    · rw [at' k hk, if_pos rfl]
      exact (bc_and b _ _).2 (g.lt k hk) hne
def stW (st : List (Nat × Nat)) : List W := st.map fun p => .tup [.int (p.1 : Nat), .int (p.2 : Nat)]
section
variable {P : Program} {w : World} {K : PySem.W.Frag} {mg : Str → Option Value} {base : Heap}
/-! ### spread -/
abbrev sSpr : Stmt := top 36
theorem sc_spr : FnScope ["known", "leads", "k", "fact", "place"] ["known", "leads", "k", "fact"] (defScope sSpr) := ⟨rfl, rfl, rfl, by decide +kernel, rfl, by decide +kernel, by decide +kernel⟩
def spSpr : ASp := fun ws G K _ => ∃ (a : Addr) (l : W) (kn ls : List Nat) (k f : Nat), ws = [.ref a, l, .int k, .int f] ∧ G a = some (.lst (nW kn)) ∧ LsA G l (nW ls) ∧ l ≠ .ref a ∧ ls.length = kn.length ∧ k < kn.length ∧ kn.length ≤ 1000 ∧ K .non (aup G a (.lst (nW (sprM ls kn k f))))
def sprP (ls kn : List Nat) (k f m : Nat) : List Nat := (List.range kn.length).map fun p => if p < m ∧ Lf ls p = Lf ls k then f else kn.getD p 0
theorem sprP_zero (ls kn : List Nat) (k f : Nat) : sprP ls kn k f 0 = kn := by
  unfold sprP
  refine List.ext_getElem (by simp) fun i h1 h2 => ?_
  rw [List.getElem_map, List.getElem_range, if_neg (fun z => Nat.not_lt_zero _ z.1), List.getD_eq_getElem?_getD, List.getElem?_eq_getElem h2]; rfl
theorem sprP_end (ls kn : List Nat) (k f : Nat) : sprP ls kn k f kn.length = sprM ls kn k f := by
  unfold sprP sprM
  refine List.map_congr_left fun p hp => ?_
  have := List.mem_range.mp hp
  by_cases c : Lf ls p = Lf ls k
  · rw [if_pos ⟨this, c⟩, if_pos c]
  · rw [if_neg (fun z => c z.2), if_neg c]
theorem sprP_at {ls kn : List Nat} {k f m i : Nat} (hi : i < kn.length) : (sprP ls kn k f m)[i]? = some (if i < m ∧ Lf ls i = Lf ls k then f else kn.getD i 0) := by
  unfold sprP; rw [List.getElem?_map, List.getElem?_range hi]; rfl
theorem sprP_yes {ls kn : List Nat} {k f m : Nat} (hm : m < kn.length) (c : Lf ls m = Lf ls k) : (sprP ls kn k f m).set m f = sprP ls kn k f (m + 1) := by
  have pl : ∀ m, (sprP ls kn k f m).length = kn.length := fun m => by unfold sprP; simp
  refine List.ext_getElem? fun i => ?_
  by_cases hi : i < kn.length
  · rw [List.getElem?_set, sprP_at hi]
    by_cases e : m = i
    · subst e; rw [if_pos rfl, if_pos (by rw [pl]; exact hm), sprP_at hi, if_pos ⟨Nat.lt_succ_self _, c⟩]
    · rw [if_neg e, sprP_at hi]
      by_cases c2 : i < m ∧ Lf ls i = Lf ls k
      · rw [if_pos c2, if_pos ⟨by omega, c2.2⟩]
      · rw [if_neg c2, if_neg (fun z => c2 ⟨by omega, z.2⟩)]
  · rw [List.getElem?_eq_none (by rw [List.length_set, pl]; omega), List.getElem?_eq_none (by rw [pl]; omega)]
theorem sprP_no {ls kn : List Nat} {k f m : Nat} (c : ¬ Lf ls m = Lf ls k) : sprP ls kn k f m = sprP ls kn k f (m + 1) := by
  unfold sprP
  refine List.map_congr_left fun p hp => ?_
  by_cases c2 : p < m ∧ Lf ls p = Lf ls k
  · rw [if_pos c2, if_pos ⟨by omega, c2.2⟩]
  · rw [if_neg c2, if_neg]
    intro z
    have : p ≠ m := fun e => c (by rw [← e]; exact z.2)
    exact c2 ⟨by omega, z.2⟩
theorem ok_spr {f : Addr} {fd : FuncData} (F : Fun K "spread" "spread" sSpr f fd) (B : Bl mg) : FnOk P w K mg base CX0 1 f fd ["known", "leads", "k", "fact"] (low ⟨P, w, K⟩ spSpr) := by
  refine fnA_of F sc_spr (fun ws G Kc KE ⟨_, _, _, _, _, _, e, _⟩ => by rw [e]; rfl) fun cdv A outer s H E ws G Kc KE hr ⟨a, l, kn, ls, k, f', e, ha, hL, nl, hl, hk, hn, kk⟩ => ?_
  subst e
  refine s_cons (s_for PassesOwn.never rfl (i_range1 rfl B.range (q_len B.len (a_cons (qv 0 rfl (a_nil ⟨_, ha, ?_⟩))))))
  dsimp only [onI]
  rw [nW_length]
  refine ⟨by omega, by omega, ?_⟩
  refine ⟨fun i ρ' G' => ∃ v4, ρ' = [some (.ref a), some l, some (.int k), some (.int f'), v4] ∧ G' = aup G a (.lst (nW (sprP ls kn k f' i))), ⟨none, rfl, by rw [sprP_zero, aup_id ha]⟩, fun _ _ _ _ _ => trivial, fun i x ρ' G' hx ⟨v4, e1, e2⟩ => ?_, fun ρ' G' ⟨v4, e1, e2⟩ => ?_⟩
  · obtain ⟨hi, rfl⟩ := rng0_item hx
    have hi : i < kn.length := by simpa using hi
    subst e1 e2
    have hL2 := hL.old (p := a) (o := .lst (nW (sprP ls kn k f' i))) nl
    have pl : (sprP ls kn k f' i).length = kn.length := by unfold sprP; simp
    refine g_name (i := 4) sc_spr.nd ?_
    refine s_cons (s_if (b_eq (u64 hr) (q_ix (qv 1 rfl (qv 4 rfl (fIx_ls hL2 (nW_at (by omega)) ?_))))))
    refine q_ix (qv 1 rfl (qv 2 rfl (fIx_ls hL2 (nW_at (by omega)) ?_)))
    refine ifB_dec (fun h => ?_) (fun h => ?_)
    · have c : Lf ls i = Lf ls k := by
        show ls.getD i 0 = ls.getD k 0
        omega
      refine s_cons (s_asg (qv 3 rfl (g_ix (qv 0 rfl (qv 4 rfl ⟨_, i, aup_same, ?_, ?_⟩)))))
      · rw [nW_length, pl]; exact ixN_nat hi
      rw [aup_aup, nW_set, sprP_yes hi c]
      exact s_nil (s_nil ⟨_, rfl, rfl⟩)
    · have c : ¬ Lf ls i = Lf ls k := fun z => h (by
        have z : ls.getD i 0 = ls.getD k 0 := z
        rw [z])
      exact s_nil (s_nil ⟨_, rfl, by rw [sprP_no c]⟩)
  · subst e1 e2
    rw [rngW_length, Int.toNat_natCast, sprP_end]
    exact s_nil ⟨_, Sub.refl, kk⟩
end
end SW
namespace SW
open PySem PySem.Spec L2 AL
def spWG (C : Addr) (fs : List (Str × W)) (ts : List Tm) (wo : Tm → List Nat → Nat) : ASp := fun ws G K _ => ∃ (a dx : Addr) (t : Tm) (kn : W) (kl : List Nat), ws = [.ref a, t.W, kn] ∧ G a = some (.ins C dx fs) ∧ LsA G kn (nW kl) ∧ kl.length = ts.length ∧ t ∈ ts ∧ K (.int (wo t kl : Nat)) G
section
variable {P : Program} {w : World} {K : PySem.W.Frag} {mg : Str → Option Value} {base : Heap}
/-! ### learned -/
abbrev sLe : Stmt := top 37
abbrev nLe : List Str := ["kind", "known", "steps", "taught", "k", "term", "fact"]
theorem sc_le : FnScope nLe ["kind"] (defScope sLe) := ⟨rfl, rfl, rfl, by decide +kernel, rfl, by decide +kernel, by decide +kernel⟩
structure LeIn (P : Program) (w : World) (K : PySem.W.Frag) (mg : Str → Option Value) (base : Heap) (C : Addr) (fs : List (Str × W)) (ts : List Tm) (ls : List Nat) (top b : Nat) (wo : Tm → List Nat → Nat) : Prop where
  T : KT K C
  MT : Mtd P w K mg base C "top" 1 ["self"] (spTop C fs top)
  MW : Mtd P w K mg base C "worth" 2 ["self", "term", "known"] (spWG C fs ts wo)
  ft : fs.lookup ("terms" : Str) = some (.lst (tW ts))
  fl : fs.lookup ("leads" : Str) = some (.lst (nW ls))
  nt : fs.lookup ("top" : Str) = none
  nw : fs.lookup ("worth" : Str) = none
  O : LsOk ts ls
  tb : top < 2 ^ b
  few : ts.length * b ≤ 1000000
theorem rep_getD {n i v : Nat} (h : i < n) : (List.replicate n v).getD i 0 = v := by
  rw [List.getD_eq_getElem?_getD, List.getElem?_replicate, if_pos h]; rfl
theorem LnG.first (ts : List Tm) (ls : List Nat) {top b : Nat} (h : top < 2 ^ b) : LnG ts.length ls b (List.replicate ts.length top) :=
  ⟨List.length_replicate, fun i j hi hj _ => by rw [rep_getD hi, rep_getD hj], fun i hi => by rw [rep_getD hi]; exact h⟩
theorem bcs_first (n top b : Nat) : bcs b (List.replicate n top) ≤ n * b := by
  unfold bcs
  rw [List.map_replicate, List.sum_replicate_nat]
  exact Nat.mul_le_mul_left n (bc_le b top)
theorem sub_del {F G : AH} {a : Addr} (S : Sub F G) (n : F a = none) : Sub F (adel G a) := fun q o h => by
  rw [adel_ne (fun z => by subst z; rw [n] at h; cases h)]; exact S q o h
theorem le_walk {C : Addr} {fs : List (Str × W)} {ts : List Tm} {ls : List Nat} {top b : Nat} {wo : Tm → List Nat → Nat} (I : LeIn P w K mg base C fs ts ls top b wo) (B : Bl mg) (CS : Cal P w K mg base "spread" 1 ["known", "leads", "k", "fact"] spSpr) {f : Addr} {cdv : Value} {A : Around} {outer : List Env} {s : Shared} {H : Hp} {E : XK} {G : AH} {Kc : W → AH → Prop} {a dx : Addr}
    (hr : Room 2 (A.deeper (PyProof.Rows.envOfC "learned" (defScope sLe) s.heap.objs.size f cdv))) (ha : G a = some (.ins C dx fs)) (kk : ∀ st kn, LnR ts ls top wo st kn → kn.length = ts.length → Kc (.tup [.lst (nW kn), .lst (stW st)]) G) :
    SQ (cxOf CX0 P w K mg base nLe "learned" (defScope sLe) f cdv A outer s H E).nox (defBody sLe) (startW nLe [.ref a]) G { nx := fun _ G' => ∃ G'', Sub G'' G' ∧ Kc .non G'', rt := fun v G' => ∃ G'', Sub G'' G' ∧ Kc v G'' } := by
  have hr1 : Room 1 (A.deeper (PyProof.Rows.envOfC "learned" (defScope sLe) s.heap.objs.size f cdv)) := hr.mono (by decide)
  have many := I.O.T.many
  have lsl := I.O.g.len
  have szl : sizeLine = 16777216 := rfl
  refine s_cons (s_setLc (i := 1) sc_le.nd (blkOk_by (N := nLe) (sc := defScope sLe) (own := [("term", 5)]) (by decide +kernel)) (i_list (q_fld (qv 0 rfl ⟨a, C, dx, fs, _, rfl, ha, I.T.cls, I.T.t, I.ft, _, rfl, ?_⟩))))
  refine lk_mapZ (zs := ts) Tm.W (fun _ => W.int top) sc_le.nd (by omega) (fun _ _ _ => rfl) (fun t ht D ws hD s0 H0 C0 cl fp => ?_) (fun kA hkA => ?_)
  · exact q_meth0 I.MT hr1 (qv 0 rfl ⟨a, dx, fs, rfl, aup_new hD ha, I.nt, a, dx, rfl, aup_new hD ha, rfl, rfl⟩)
  have e0 : (ts.map fun _ => W.int (top : Nat)) = nW (List.replicate ts.length top) := by unfold nW; rw [List.map_replicate, List.map_const']
  rw [e0]
  refine s_cons (s_set (i := 2) sc_le.nd (q_lst (a_nil fun sA hsA => ?_)))
  obtain ⟨hsA0, sk⟩ := aup_free hsA
  refine s_cons (s_set (i := 3) sc_le.nd (q_bl ?_))
  refine s_cons (s_whileN PassesOwn.never (fun m ρ' G' => ∃ kn st bq v4 v5 v6, ρ' = [some (.ref a), some (.ref kA), some (.ref sA), some (.bl bq), v4, v5, v6] ∧ G' kA = some (.lst (nW kn)) ∧ G' sA = some (.lst (stW st)) ∧ Sub G G' ∧ LnG ts.length ls b kn ∧ LnP ts ls wo (List.replicate ts.length top) st kn ∧ st.length + bcs b kn ≤ ts.length * b ∧ (bq = false → ∀ k, k < ts.length → kn.getD k 0 &&& wo (tmAt ts k) kn = kn.getD k 0) ∧ m = (if bq = true then bcs b kn + 1 else 0)) (bcs b (List.replicate ts.length top) + 1)
    ⟨List.replicate ts.length top, [], true, none, none, none, rfl, aup_old sk.symm aup_same, aup_same, sub2 hkA hsA0, LnG.first ts ls I.tb, .nil, by have := bcs_first ts.length top b; rw [List.length_nil]; omega, fun z => Bool.noConfusion z, rfl⟩ fun m ρ' G' ⟨kn, st, bq, v4, v5, v6, e1, hk, hs, S, LG, LP, hb, fx, em⟩ => ?_)
  subst e1
  refine b_val (qv 3 rfl ?_)
  cases bq with
  | false =>
    refine ifF ?_
    refine s_frz 1 rfl hk (s_frz 2 rfl (show adel G' kA sA = _ by rw [adel_ne sk]; exact hs) ?_)
    exact s_cons (s_ret (q_tup (a_cons (qv 1 rfl (a_cons (qv 2 rfl (a_nil ⟨G, sub_del (sub_del S hkA) hsA0, kk st kn ⟨LP, fx rfl⟩ LG.len⟩)))))))
  | true =>
    have em : m = bcs b kn + 1 := em
    refine ifT (s_cons (s_set (i := 3) sc_le.nd (q_bl ?_)))
    refine s_cons (s_for PassesOwn.never rfl (i_enum rfl B.enumerate (q_fld (qv 0 rfl ⟨a, C, dx, fs, _, rfl, S _ _ ha, I.T.cls, I.T.t, I.ft, _, rfl, ?_⟩))))
    refine ⟨fun i ρ' G' => ∃ kn' st' bq v4 v5 v6, ρ' = [some (.ref a), some (.ref kA), some (.ref sA), some (.bl bq), v4, v5, v6] ∧ G' kA = some (.lst (nW kn')) ∧ G' sA = some (.lst (stW st')) ∧ Sub G G' ∧ LnG ts.length ls b kn' ∧ LnP ts ls wo (List.replicate ts.length top) st' kn' ∧ st'.length + bcs b kn' ≤ ts.length * b ∧ bcs b kn' ≤ bcs b kn ∧ (bq = true → bcs b kn' < bcs b kn) ∧ (bq = false → kn' = kn ∧ ∀ k, k < i → kn.getD k 0 &&& wo (tmAt ts k) kn = kn.getD k 0),
      ⟨kn, st, false, v4, v5, v6, rfl, hk, hs, S, LG, LP, hb, Nat.le_refl _, fun z => Bool.noConfusion z, fun _ => ⟨rfl, fun k hk => absurd hk (Nat.not_lt_zero _)⟩⟩, fun _ _ _ _ _ => rfl, fun i x ρ' G' hx ⟨kn', st', bq, v4, v5, v6, e1, hk, hs, S, LG, LP, hb, le1, yes, no⟩ => ?_, fun ρ' G' ⟨kn', st', bq, v4, v5, v6, e1, hk, hs, S, LG, LP, hb, le1, yes, no⟩ => ?_⟩
    · obtain ⟨x0, hx0, rfl⟩ := enW_item hx
      obtain ⟨t, ht, rfl⟩ := tW_item hx0
      have hi : i < ts.length := (List.getElem?_eq_some_iff.mp ht).1
      have et : tmAt ts i = t := tmAt_of ht
      subst e1
      refine g_tup rfl (gs_cons (g_name (i := 4) sc_le.nd (gs_cons (g_name (i := 5) sc_le.nd (gs_nil ?_)))))
      refine s_cons (s_set (i := 6) sc_le.nd (q_band (q_ix (qv 1 rfl (qv 4 rfl (fIx_ls (xs := nW kn') hk (nW_at (by rw [LG.len]; exact hi)) ?_))))))
      refine q_meth I.MW hr (qv 0 rfl ⟨a, dx, fs, rfl, S _ _ ha, I.nw, a_cons (qv 5 rfl (a_cons (qv 1 rfl (a_nil ⟨a, dx, t, .ref kA, kn', rfl, S _ _ ha, hk, LG.len, List.mem_of_getElem? ht, ?_⟩))))⟩)
      refine ⟨_, _, rfl, rfl, ?_⟩
      obtain ⟨fv, hfv⟩ : ∃ fv, kn'.getD i 0 &&& wo t kn' = fv := ⟨_, rfl⟩
      refine SQ.st [some (.ref a), some (.ref kA), some (.ref sA), some (.bl bq), some (.int i), some t.W, some (.int fv)] (by rw [← hfv]; rfl) ?_
      refine s_cons (s_if (b_ne (u64 hr) (qv 6 rfl (q_ix (qv 1 rfl (qv 4 rfl (fIx_ls (xs := nW kn') hk (nW_at (by rw [LG.len]; exact hi)) ?_)))))))
      refine ifB_ndec (fun hne => ?_) (fun he => ?_)
      · have hne : kn'.getD i 0 &&& wo (tmAt ts i) kn' ≠ kn'.getD i 0 := fun z => hne (by rw [et, hfv] at z; omega)
        obtain ⟨LG2, lt2⟩ := LG.step hi hne
        have LP2 := LnP.snoc LP hi hne
        rw [et, hfv] at LG2 lt2 LP2
        refine s_cons (s_expr (q_cal CS hr1 (a_cons (qv 1 rfl (a_cons (q_fld (qv 0 rfl ⟨a, C, dx, fs, _, rfl, S _ _ ha, I.T.cls, I.T.l, I.fl, a_cons (qv 4 rfl (a_cons (qv 6 rfl (a_nil ⟨kA, .lst (nW ls), kn', ls, i, fv, rfl, hk, rfl, (fun z => by cases z), by rw [LG.len]; exact lsl, by rw [LG.len]; exact hi, by rw [LG.len]; omega, ?_⟩))))⟩)))))))
        refine s_cons (s_expr (q_append (qv 2 rfl ⟨sA, _, rfl, aup_old sk hs, a_cons (q_tup (a_cons (qv 4 rfl (a_cons (qv 6 rfl (a_nil (a_nil ⟨_, aup_old sk hs, ?_, ?_⟩)))))))⟩)))
        · have := I.few
          have : (stW st').length = st'.length := by unfold stW; rw [List.length_map]
          omega
        refine s_cons (s_set (i := 3) sc_le.nd (q_bl ?_))
        refine s_nil (s_nil ⟨_, st' ++ [(i, fv)], true, _, _, _, rfl, aup_old sk.symm aup_same, ?_, sub_aup (sub_aup S hkA) hsA0, LG2, LP2, ?_, by omega, fun _ => by omega, fun z => Bool.noConfusion z⟩)
        · rw [aup_same]
          unfold stW
          rw [List.map_append]; rfl
        · rw [List.length_append, List.length_singleton]; omega
      · have he : fv = kn'.getD i 0 := by omega
        refine s_nil (s_nil ⟨kn', st', bq, _, _, _, rfl, hk, hs, S, LG, LP, hb, le1, yes, fun z => ?_⟩)
        obtain ⟨n1, n2⟩ := no z
        refine ⟨n1, fun k hk => ?_⟩
        rcases Nat.lt_succ_iff_lt_or_eq.mp hk with c | c
        · exact n2 k c
        · subst c
          rw [← n1, et, hfv, he]
    · subst e1
      rw [enW_length, tW_length] at no
      refine s_nil ?_
      cases bq with
      | true => exact ⟨bcs b kn' + 1, by have := yes rfl; omega, kn', st', true, v4, v5, v6, rfl, hk, hs, S, LG, LP, hb, fun z => Bool.noConfusion z, rfl⟩
      | false =>
        obtain ⟨n1, n2⟩ := no rfl
        exact ⟨0, by omega, kn', st', false, v4, v5, v6, rfl, hk, hs, S, LG, LP, hb, fun _ => by rw [n1]; exact n2, rfl⟩
def spLe (CS CN : Addr) : ASp := fun ws G K _ => ∃ (a dx : Addr) (ts : List Tm) (ls : List Nat), ws = [.ref a] ∧ LsOk ts ls ∧ OneT ts ∧ ts.length ≤ 400 ∧
  ((G a = some (.ins CS dx (fsK ts ls)) ∧ ∀ st kn, LnR ts ls 7 sgW st kn → kn.length = ts.length → K (.tup [.lst (nW kn), .lst (stW st)]) G) ∨
   (G a = some (.ins CN dx (fsN ts ls (heldM ts))) ∧ ∀ st kn, LnR ts ls (topM (heldM ts)) (nmW (heldM ts)) st kn → kn.length = ts.length → K (.tup [.lst (nW kn), .lst (stW st)]) G))
theorem held_mem {ts : List Tm} {x : Str} (h : Tm.name x ∈ ts) : x ∈ heldM ts := List.mem_flatMap.mpr ⟨_, h, List.mem_singleton.mpr rfl⟩
theorem ok_le {CS CN : Addr} {f : Addr} {fd : FuncData} (F : Fun K "learned" "learned" sLe f fd) (B : Bl mg) (TS : KT K CS) (TN : KT K CN) (CSp : Cal P w K mg base "spread" 1 ["known", "leads", "k", "fact"] spSpr)
    (MST : Mtd P w K mg base CS "top" 1 ["self"] (fun ws G K KE => ∃ fs, spTop CS fs 7 ws G K KE)) (MSW : Mtd P w K mg base CS "worth" 2 ["self", "term", "known"] (fun ws G K KE => ∃ fs n, spWo CS fs n sgW ws G K KE))
    (MNT : Mtd P w K mg base CN "top" 1 ["self"] (spNt CN)) (MNW : Mtd P w K mg base CN "worth" 2 ["self", "term", "known"] (spNw CN)) : FnOk P w K mg base CX0 3 f fd ["kind"] (low ⟨P, w, K⟩ (spLe CS CN)) := by
  refine fnA_of F sc_le (fun ws G Kc KE ⟨_, _, _, _, e, _⟩ => by rw [e]; rfl) fun cdv A outer s H E ws G Kc KE hr ⟨a, dx, ts, ls, e, O, one, few, hc⟩ => ?_
  subst e
  have armk : ∀ t ∈ ts, (∀ k ∈ arms t, k < ts.length) ∧ (arms t).length ≤ 4 := fun t ht => by
    obtain ⟨i, hi⟩ := List.mem_iff_getElem?.mp ht
    have := mk_arms O.T (ls := ls) O.g.len hi
    rw [O.g.len] at this
    exact this
  rcases hc with ⟨ha, kk⟩ | ⟨ha, kk⟩
  · refine le_walk (ts := ts) (ls := ls) (top := 7) (b := 3) (wo := sgW) ⟨TS, MST.imp fun ws G K KE h => ⟨_, h⟩, MSW.imp fun ws G K KE ⟨a, dx, t, kn, kl, e, h1, h2, h3, h4, k⟩ => ⟨fsK ts ls, ts.length, a, dx, t, kn, kl, e, h1, h2, h3, (armk t h4).1, one t h4, (armk t h4).2, k⟩, fsK_t ts ls, fsK_l ts ls, fsK_no ts ls (by decide +kernel) (by decide +kernel), fsK_no ts ls (by decide +kernel) (by decide +kernel), O, by decide, by omega⟩ B CSp hr ha kk
  · have hl := held_len ts
    refine le_walk (ts := ts) (ls := ls) (top := topM (heldM ts)) (b := (heldM ts).length) (wo := nmW (heldM ts)) ⟨TN, MNT.imp fun ws G K KE ⟨a, dx, e, h1, k⟩ => ⟨a, dx, ts, ls, heldM ts, e, h1, by omega, k⟩, MNW.imp fun ws G K KE ⟨a, dx, t, kn, kl, e, h1, h2, h3, h4, k⟩ => ⟨a, dx, ts, ls, heldM ts, t, kn, kl, e, h1, by omega, h2, by rw [h3]; exact (armk t h4).1, one t h4, fun x hx => held_mem (by rw [← hx]; exact h4), k⟩, fsN_t ts ls _, fsN_l ts ls _, fsN_no ts ls _ (by decide +kernel) (by decide +kernel) (by decide +kernel), fsN_no ts ls _ (by decide +kernel) (by decide +kernel) (by decide +kernel), O, ?_, ?_⟩ B CSp hr ha kk
    · have : 1 ≤ 2 ^ (heldM ts).length := Nat.one_le_two_pow
      unfold topM; omega
    · have := Nat.mul_le_mul few (Nat.le_trans hl few)
      omega
/-! ### numbers -/
abbrev sNum : Stmt := top 38
theorem sc_num : FnScope ["terms", "leads", "k", "found", "place", "term"] ["terms", "leads", "k"] (defScope sNum) := ⟨rfl, rfl, rfl, by decide +kernel, rfl, by decide +kernel, by decide +kernel⟩
def numT : Tm → List Int
  | .num n => [n]
  | _ => []
/-- the numbers of the class with the lead j, down to the m-th term -/
def numsM (ts : List Tm) (ls : List Nat) (j m : Nat) : List Int := (List.range m).flatMap fun p => if Lf ls p = j then numT (tmAt ts p) else []
def spNum : ASp := fun ws G K _ => ∃ (t l : W) (ts : List Tm) (ls : List Nat) (k : Nat), ws = [t, l, .int k] ∧ LsA G t (tW ts) ∧ LsA G l (nW ls) ∧ ls.length = ts.length ∧ k < ts.length ∧ ts.length ≤ 1000 ∧ ∀ p, G p = none → K (.ref p) (aup G p (.lst ((numsM ts ls (Lf ls k) ts.length).map W.int)))
theorem numsM_len (ts : List Tm) (ls : List Nat) (j : Nat) : ∀ m, (numsM ts ls j m).length ≤ m := fun m => by
  induction m with
  | zero => exact Nat.le_refl _
  | succ m ih =>
    unfold numsM at ih ⊢
    rw [List.range_succ, List.flatMap_append, List.length_append]
    have : ([m].flatMap fun p => if Lf ls p = j then numT (tmAt ts p) else []).length ≤ 1 := by
      simp only [List.flatMap_cons, List.flatMap_nil, List.append_nil]
      split
      · cases tmAt ts m <;> simp [numT]
      · simp
    omega
theorem ok_num {f : Addr} {fd : FuncData} (F : Fun K "numbers" "numbers" sNum f fd) (B : Bl mg) : FnOk P w K mg base CX0 1 f fd ["terms", "leads", "k"] (low ⟨P, w, K⟩ spNum) := by
  refine fnA_of F sc_num (fun ws G Kc KE ⟨_, _, _, _, _, e, _⟩ => by rw [e]; rfl) fun cdv A outer s H E ws G Kc KE hr ⟨t, l, ts, ls, k, e, hT, hL, hl, hk, hn, kk⟩ => ?_
  subst e
  have szl : sizeLine = 16777216 := rfl
  refine s_cons (s_set (i := 3) sc_num.nd (q_lst (a_nil fun p hp => ?_)))
  refine s_cons (s_for PassesOwn.never rfl (i_enum rfl B.enumerate (qv 0 rfl ⟨_, hT.new hp, ?_⟩)))
  refine ⟨fun i ρ' G' => ∃ v4 v5, ρ' = [some t, some l, some (.int k), some (.ref p), v4, v5] ∧ G' = aup G p (.lst ((numsM ts ls (Lf ls k) i).map W.int)), ⟨none, none, rfl, rfl⟩, fun i ρ' G' _ ⟨_, _, _, e⟩ => by rw [e]; exact hT.new hp, fun i x ρ' G' hx ⟨v4, v5, e1, e2⟩ => ?_, fun ρ' G' ⟨v4, v5, e1, e2⟩ => ?_⟩
  · obtain ⟨x0, hx0, rfl⟩ := enW_item hx
    obtain ⟨u, hu, rfl⟩ := tW_item hx0
    have hi : i < ts.length := (List.getElem?_eq_some_iff.mp hu).1
    have et : tmAt ts i = u := tmAt_of hu
    have suc : numsM ts ls (Lf ls k) (i + 1) = numsM ts ls (Lf ls k) i ++ if Lf ls i = Lf ls k then numT u else [] := by
      unfold numsM
      rw [List.range_succ, List.flatMap_append, List.flatMap_cons, List.flatMap_nil, List.append_nil, et]
    subst e1 e2
    refine g_tup rfl (gs_cons (g_name (i := 4) sc_num.nd (gs_cons (g_name (i := 5) sc_num.nd (gs_nil ?_)))))
    refine SQ.st [some t, some l, some (.int k), some (.ref p), some (.int i), some u.W] rfl ?_
    refine s_cons (s_if (WQ.test (w_and (b_eq (u64 hr) (q_ix (qv 5 rfl (q_int ?_)))))))
    cases u with
    | name z =>
      refine fIx_tup (v := .str "name") rfl (q_str (ifB_F (show decide (Str.ofString "name" = Str.ofString "num") = false from decide_eq_false fun z => strs_ne.1 z.symm) (ifB_F rfl (s_nil (s_nil ⟨_, _, rfl, ?_⟩)))))
      rw [suc]; show aup G p _ = aup G p (.lst ((_ ++ (if _ then [] else [])).map W.int)); simp
    | of wd ks =>
      refine fIx_tup (v := .str "of") rfl (q_str (ifB_F (show decide (Str.ofString "of" = Str.ofString "num") = false from decide_eq_false fun z => strs_ne.2.1 z.symm) (ifB_F rfl (s_nil (s_nil ⟨_, _, rfl, ?_⟩)))))
      rw [suc]; show aup G p _ = aup G p (.lst ((_ ++ (if _ then [] else [])).map W.int)); simp
    | num z =>
      refine fIx_tup (v := .str "num") rfl (q_str (ifB_T (show decide (Str.ofString "num" = Str.ofString "num") = true from decide_eq_true rfl) (w_and1 (b_eq (u64 hr) (q_ix (qv 1 rfl (qv 4 rfl (fIx_ls (hL.new hp) (nW_at (by omega)) ?_))))))))
      refine q_ix (qv 1 rfl (qv 2 rfl (fIx_ls (hL.new hp) (nW_at (by omega)) ?_)))
      have hlen := numsM_len ts ls (Lf ls k) i
      refine ifB_dec (fun h => ?_) (fun h => s_nil (s_nil ⟨_, _, rfl, ?_⟩))
      · have c : Lf ls i = Lf ls k := by show ls.getD i 0 = ls.getD k 0; omega
        refine s_cons (s_expr (q_append (qv 3 rfl ⟨p, _, rfl, aup_same, a_cons (q_ix (qv 5 rfl (q_int (fIx_tup (v := .int z) rfl (a_nil ⟨_, aup_same, by rw [List.length_map]; omega, s_nil (s_nil ⟨_, _, rfl, ?_⟩)⟩)))))⟩)))
        rw [aup_aup, suc, if_pos c, List.map_append]; rfl
      · have c : ¬ Lf ls i = Lf ls k := fun z => h (by have z : ls.getD i 0 = ls.getD k 0 := z; rw [z])
        rw [suc, if_neg c, List.append_nil]
  · subst e1 e2
    rw [enW_length, tW_length]
    exact s_cons (s_ret (qv 3 rfl ⟨_, Sub.refl, kk p hp⟩))
end
end SW
namespace SW
open PySem PySem.Spec L2 AL
/-! ### plain: what is learned of names in a row -/
theorem LnP.good {ts : List Tm} {ls : List Nat} {wo : Tm → List Nat → Nat} {k0 : List Nat} {b : Nat} (h0 : LnG ts.length ls b k0) {st : List (Nat × Nat)} {kn : List Nat} (h : LnP ts ls wo k0 st kn) : LnG ts.length ls b kn := by
  induction h with
  | nil => exact h0
  | snoc _ hk hne ih => exact (ih.step hk hne).1
/-- the ways of facts, step by step -/
theorem LnP.seq {ts : List Tm} {ls : List Nat} {wo : Tm → List Nat → Nat} {k0 : List Nat} {b : Nat} (h0 : LnG ts.length ls b k0) {st : List (Nat × Nat)} {kn : List Nat} (h : LnP ts ls wo k0 st kn) :
    ∃ sq : Nat → List Nat, sq 0 = k0 ∧ sq st.length = kn ∧ (∀ i, i ≤ st.length → (sq i).length = ts.length) ∧ ∀ i k f, st[i]? = some (k, f) → k < ts.length ∧ f &&& (sq i).getD k 0 = f ∧ f ≠ (sq i).getD k 0 ∧ sq (i + 1) = sprM ls (sq i) k f := by
  induction h with
  | nil => exact ⟨fun _ => k0, rfl, rfl, fun _ _ => h0.len, fun i k f h => by simp at h⟩
  | @snoc st kn k hp hk hne ih =>
    obtain ⟨sq, e0, e1, e2, e3⟩ := ih
    have gl := (hp.good h0).len
    obtain ⟨sq', s1, s2⟩ : ∃ sq' : Nat → List Nat, (∀ i, i ≤ st.length → sq' i = sq i) ∧ sq' (st.length + 1) = sprM ls kn k (kn.getD k 0 &&& wo (tmAt ts k) kn) := ⟨fun i => if i ≤ st.length then sq i else sprM ls kn k (kn.getD k 0 &&& wo (tmAt ts k) kn), fun i hi => if_pos hi, if_neg (by omega)⟩
    refine ⟨sq', by rw [s1 _ (Nat.zero_le _)]; exact e0, ?_, fun i hi => ?_, fun i k' f' h => ?_⟩
    · rw [List.length_append, List.length_singleton]; exact s2
    · rw [List.length_append, List.length_singleton] at hi
      by_cases c : i ≤ st.length
      · rw [s1 i c]; exact e2 i c
      · rw [show i = st.length + 1 by omega, s2, sprM_len]; exact gl
    · by_cases c : i < st.length
      · rw [List.getElem?_append_left c] at h
        obtain ⟨a1, a2, a3, a4⟩ := e3 i k' f' h
        rw [s1 i (by omega), s1 (i + 1) (by omega)]
        exact ⟨a1, a2, a3, a4⟩
      · have hi : i = st.length := by
          have := (List.getElem?_eq_some_iff.mp h).1
          rw [List.length_append, List.length_singleton] at this
          omega
        subst hi
        rw [List.getElem?_append_right (Nat.le_refl _), Nat.sub_self] at h
        cases h
        rw [s1 _ (Nat.le_refl _), s2, e1]
        refine ⟨hk, ?_, hne, rfl⟩
        rw [Nat.and_assoc, Nat.and_comm (wo _ _), ← Nat.and_assoc, Nat.and_self]
def swp (b : Nat) : Nat := if b = 1 then 4 else if b = 4 then 1 else b
def swps (b : Nat) : Nat → Nat
  | 0 => b
  | d + 1 => swp (swps b d)
def isS (b : Nat) : Prop := b = 1 ∨ b = 2 ∨ b = 4
theorem sgn_is (n : Int) : isS (sgn n) := by
  unfold sgn
  split
  · exact .inl rfl
  · split
    · exact .inr (.inl rfl)
    · exact .inr (.inr rfl)
theorem swp_is {b : Nat} (h : isS b) : isS (swp b) ∧ opp b = swp b := by
  rcases h with rfl | rfl | rfl
  · exact ⟨.inr (.inr rfl), by decide⟩
  · exact ⟨.inr (.inl rfl), by decide⟩
  · exact ⟨.inl rfl, by decide⟩
theorem swps_is {b : Nat} (h : isS b) : ∀ d, isS (swps b d)
  | 0 => h
  | d + 1 => (swp_is (swps_is h d)).1
/-- the signs that are due of the class i -/
def sgD (wd : Str) (z : Int) (M i : Nat) : Nat := if i = M - 1 ∨ wd = "neg" then swps (sgn z) (M - 1 - i) else 7
section
variable {nm : List Str} {wd : Str} {z : Int} {rev : Bool}
theorem sgD_or (wd : Str) (z : Int) (M i : Nat) : sgD wd z M i = 7 ∨ isS (sgD wd z M i) := by
  unfold sgD
  split
  · exact .inr (swps_is (sgn_is z) _)
  · exact .inl rfl
theorem and_cases {x D y : Nat} (hD : D = 7 ∨ isS D) (hx : x = 7 ∨ x = D) (hy : y = 7 ∨ y = D) : x &&& y = 7 ∨ x &&& y = D := by
  rcases hx with rfl | rfl <;> rcases hy with rfl | rfl
  · exact .inl rfl
  · right
    rcases hD with rfl | rfl | rfl | rfl <;> rfl
  · right
    rcases hD with rfl | rfl | rfl | rfl <;> rfl
  · right; exact Nat.and_self _
theorem and7 {D : Nat} (h : isS D) : 7 &&& D = D ∧ D ≠ 7 := by
  rcases h with rfl | rfl | rfl <;> exact ⟨rfl, by decide⟩
theorem sg_worth (R : RowN nm wd z) {kn : List Nat} (hl : kn.length = 2 * nm.length) (I : ∀ k, k < 2 * nm.length → kn.getD k 0 = 7 ∨ kn.getD k 0 = sgD wd z nm.length (ldN nm.length rev k)) {k : Nat} (hk : k < 2 * nm.length) : sgW (tmAt (tsN nm wd z rev) k) kn = 7 ∨ sgW (tmAt (tsN nm wd z rev) k) kn = sgD wd z nm.length (ldN nm.length rev k) := by
  have h2 := R.two
  rcases tsN_what (rev := rev) R hk with ⟨a1, x, a2, q⟩ | ⟨a1, q⟩ | ⟨p, a1, a2, q⟩ <;> rw [q]
  · exact .inl rfl
  · right
    rw [a1, ldN_num h2]
    unfold sgD
    rw [if_pos (.inl rfl), Nat.sub_self]; rfl
  · have o := ordN_lt (rev := rev) a1
    by_cases c : wd = "neg"
    · have e : sgW (.of wd [ordN nm.length rev p]) kn = opp (kn.getD (ordN nm.length rev p) 0) := if_pos ⟨c, rfl⟩
      rw [e, a2, ldN_of a1]
      have I2 := I (ordN nm.length rev p) (by omega)
      rw [ldN_name o.2] at I2
      rcases I2 with h | h
      · left; rw [h]; decide
      · right
        rw [h]
        unfold sgD
        rw [if_pos (.inr c), if_pos (.inr c), (swp_is (swps_is (sgn_is z) _)).2, show nm.length - 1 - (ordN nm.length rev p - 1) = (nm.length - 1 - ordN nm.length rev p) + 1 by omega]; rfl
    · left; exact if_neg fun z => c z.1
theorem sg_row (R : RowN nm wd z) {st : List (Nat × Nat)} {kn : List Nat} (L : LnR (tsN nm wd z rev) (lsN nm.length rev) 7 sgW st kn) : ∀ k, k < 2 * nm.length → kn.getD k 0 = sgD wd z nm.length (ldN nm.length rev k) := by
  have h2 := R.two
  have len := tsN_len (rev := rev) R
  have G0 := LnG.first (tsN nm wd z rev) (lsN nm.length rev) (top := 7) (b := 3) (by decide)
  have good := L.way.good G0
  have inv : ∀ k, k < 2 * nm.length → kn.getD k 0 = 7 ∨ kn.getD k 0 = sgD wd z nm.length (ldN nm.length rev k) := by
    have key : ∀ {st kn}, LnP (tsN nm wd z rev) (lsN nm.length rev) sgW (List.replicate (tsN nm wd z rev).length 7) st kn → ∀ k, k < 2 * nm.length → kn.getD k 0 = 7 ∨ kn.getD k 0 = sgD wd z nm.length (ldN nm.length rev k) := fun {st kn} h => by
      induction h with
      | nil => intro k hk; exact .inl (rep_getD (by rw [len]; exact hk))
      | @snoc st kn u hp hu hne ih =>
        intro k hk
        have g := hp.good G0
        have gl : kn.length = 2 * nm.length := by rw [g.len, len]
        rw [len] at hu
        rw [sprM_at (by rw [gl]; exact hk)]
        split
        · rename_i e
          rw [lsN_at hk, lsN_at hu] at e
          rw [e]
          exact and_cases (sgD_or _ _ _ _) (ih u hu) (sg_worth R gl ih hu)
        · exact ih k hk
    exact key L.way
  have gl : kn.length = 2 * nm.length := by rw [good.len, len]
  have cls : ∀ i, i < nm.length → kn.getD i 0 = sgD wd z nm.length i := by
    have key : ∀ j, j < nm.length → kn.getD (nm.length - 1 - j) 0 = sgD wd z nm.length (nm.length - 1 - j) := by
      intro j
      induction j with
      | zero =>
        intro _
        have f := L.fix (2 * nm.length - 1) (by omega)
        rw [tmAt_of (tsN_num R)] at f
        have e1 := good.uni (2 * nm.length - 1) (nm.length - 1) (by omega) (by omega) (by rw [lsN_at (by omega), lsN_at (by omega), ldN_num h2, ldN_name (k := nm.length - 1) (by omega)])
        have i1 := inv (2 * nm.length - 1) (by omega)
        rw [ldN_num h2] at i1
        rw [Nat.sub_zero, ← e1]
        rcases i1 with h | h
        · exfalso
          have f : kn.getD (2 * nm.length - 1) 0 &&& sgn z = kn.getD (2 * nm.length - 1) 0 := f
          rw [h, (and7 (sgn_is z)).1] at f
          exact (and7 (sgn_is z)).2 f
        · exact h
      | succ j ih =>
        intro hj
        have ih := ih (by omega)
        have hi : nm.length - 1 - (j + 1) < nm.length - 1 := by omega
        generalize hie : nm.length - 1 - (j + 1) = i at hi
        rw [show nm.length - 1 - j = i + 1 by omega] at ih
        obtain ⟨t1, t2, t3⟩ := atN_lt (rev := rev) hi
        have q1 := tsN_of (nm := nm) (wd := wd) (z := z) (rev := rev) (p := atN nm.length rev i - nm.length) (by omega)
        rw [show nm.length + (atN nm.length rev i - nm.length) = atN nm.length rev i by omega, t3] at q1
        have f := L.fix (atN nm.length rev i) (by omega)
        rw [tmAt_of q1] at f
        have e1 := good.uni (atN nm.length rev i) i (by omega) (by omega) (by rw [lsN_at (by omega), lsN_at (by omega), ldN_at hi, ldN_name (k := i) (by omega)])
        have i1 := inv (atN nm.length rev i) (by omega)
        rw [ldN_at hi] at i1
        rw [← e1]
        by_cases c : wd = "neg"
        · have e : sgW (.of wd [i + 1]) kn = opp (kn.getD (i + 1) 0) := if_pos ⟨c, rfl⟩
          have sD : sgD wd z nm.length i = swps (sgn z) (nm.length - 1 - i) := if_pos (.inr c)
          have sD1 : sgD wd z nm.length (i + 1) = swps (sgn z) (nm.length - 1 - (i + 1)) := if_pos (.inr c)
          rw [e, ih, sD1, (swp_is (swps_is (sgn_is z) _)).2] at f
          have e3 : swp (swps (sgn z) (nm.length - 1 - (i + 1))) = swps (sgn z) (nm.length - 1 - i) := by
            rw [show nm.length - 1 - i = (nm.length - 1 - (i + 1)) + 1 by omega]; rfl
          rw [e3] at f
          rcases i1 with h | h
          · exfalso
            rw [h, (and7 (swps_is (sgn_is z) _)).1] at f
            exact (and7 (swps_is (sgn_is z) _)).2 f
          · exact h
        · have sD : sgD wd z nm.length i = 7 := if_neg fun z => z.elim (by omega) c
          rcases i1 with h | h
          · rw [h, sD]
          · exact h
    intro i hi
    have := key (nm.length - 1 - i) (by omega)
    rw [show nm.length - 1 - (nm.length - 1 - i) = i by omega] at this
    exact this
  intro k hk
  have l := (ldN_lt (rev := rev) h2 hk).1
  rw [← cls _ l]
  exact good.uni k (ldN nm.length rev k) (by omega) (by omega) (by rw [lsN_at hk, lsN_at (by omega), ldN_name l])
theorem top_lt (hd : List Str) : topM hd < 2 ^ hd.length := by
  have : 1 ≤ 2 ^ hd.length := Nat.one_le_two_pow
  unfold topM; omega
theorem nm_row (R : RowN nm wd z) {st : List (Nat × Nat)} {kn : List Nat} {hd : List Str} (L : LnR (tsN nm wd z rev) (lsN nm.length rev) (topM hd) (nmW hd) st kn) : ∀ k, k < 2 * nm.length → kn.getD k 0 = 0 := by
  have h2 := R.two
  have len := tsN_len (rev := rev) R
  have good := L.way.good (LnG.first (tsN nm wd z rev) (lsN nm.length rev) (top_lt hd))
  have key : ∀ j, j < nm.length → kn.getD (nm.length - 1 - j) 0 = 0 := by
    intro j
    induction j with
    | zero =>
      intro _
      have f := L.fix (2 * nm.length - 1) (by omega)
      rw [tmAt_of (tsN_num R)] at f
      have e1 := good.uni (2 * nm.length - 1) (nm.length - 1) (by omega) (by omega) (by rw [lsN_at (by omega), lsN_at (by omega), ldN_num h2, ldN_name (k := nm.length - 1) (by omega)])
      rw [Nat.sub_zero, ← e1, ← f]
      exact Nat.and_zero _
    | succ j ih =>
      intro hj
      have ih := ih (by omega)
      have hi : nm.length - 1 - (j + 1) < nm.length - 1 := by omega
      generalize hie : nm.length - 1 - (j + 1) = i at hi
      rw [show nm.length - 1 - j = i + 1 by omega] at ih
      obtain ⟨t1, t2, t3⟩ := atN_lt (rev := rev) hi
      have q1 := tsN_of (nm := nm) (wd := wd) (z := z) (rev := rev) (p := atN nm.length rev i - nm.length) (by omega)
      rw [show nm.length + (atN nm.length rev i - nm.length) = atN nm.length rev i by omega, t3] at q1
      have f := L.fix (atN nm.length rev i) (by omega)
      rw [tmAt_of q1] at f
      have e1 := good.uni (atN nm.length rev i) i (by omega) (by omega) (by rw [lsN_at (by omega), lsN_at (by omega), ldN_at hi, ldN_name (k := i) (by omega)])
      rw [← e1, ← f]
      show _ &&& (0 ||| kn.getD (i + 1) 0) = 0
      rw [ih]; exact Nat.and_zero _
  intro k hk
  have l := (ldN_lt (rev := rev) h2 hk).1
  have := key (nm.length - 1 - ldN nm.length rev k) (by omega)
  rw [show nm.length - 1 - (nm.length - 1 - ldN nm.length rev k) = ldN nm.length rev k by omega] at this
  exact (good.uni k (ldN nm.length rev k) (by omega) (by omega) (by rw [lsN_at hk, lsN_at (by omega), ldN_name l])).trans this
end
/-- unlike names alone -/
theorem alone_row {nm : List Str} (nd : nm.Nodup) {st : List (Nat × Nat)} {kn : List Nat} (L : LnR (nm.map Tm.name) (List.range nm.length) (topM nm) (nmW nm) st kn) : ∀ k, k < nm.length → kn.getD k 0 = 2 ^ k := by
  have len : (nm.map Tm.name).length = nm.length := List.length_map _
  have G0 := LnG.first (nm.map Tm.name) (List.range nm.length) (top_lt nm)
  have good := L.way.good G0
  have wo : ∀ k kn, k < nm.length → nmW nm (tmAt (nm.map Tm.name) k) kn = 2 ^ k := fun k kn hk => by
    have e : tmAt (nm.map Tm.name) k = .name nm[k] := tmAt_of (by rw [List.getElem?_map, List.getElem?_eq_getElem hk]; rfl)
    rw [e]
    show 1 * 2 ^ nm.idxOf nm[k] = _
    rw [nd.idxOf_getElem k hk, Nat.one_mul]
  have tb : ∀ k, k < nm.length → topM nm &&& 2 ^ k = 2 ^ k := fun k hk => by
    unfold topM
    rw [Nat.and_comm, Nat.and_two_pow_sub_one_eq_mod]
    exact Nat.mod_eq_of_lt (Nat.pow_lt_pow_right (by decide) hk)
  have rg : ∀ k, k < nm.length → Lf (List.range nm.length) k = k := fun k hk => getD_range hk
  have inv : ∀ k, k < nm.length → kn.getD k 0 = topM nm ∨ kn.getD k 0 = 2 ^ k := by
    have key : ∀ {st kn}, LnP (nm.map Tm.name) (List.range nm.length) (nmW nm) (List.replicate (nm.map Tm.name).length (topM nm)) st kn → ∀ k, k < nm.length → kn.getD k 0 = topM nm ∨ kn.getD k 0 = 2 ^ k := fun {st kn} h => by
      induction h with
      | nil => intro k hk; exact .inl (rep_getD (by rw [len]; exact hk))
      | @snoc st kn u hp hu hne ih =>
        intro k hk
        have g := hp.good G0
        rw [len] at hu
        rw [sprM_at (by rw [g.len, len]; exact hk)]
        split
        · rename_i e
          rw [rg k hk, rg u hu] at e
          subst e
          rw [wo k kn hk]
          right
          rcases ih k hk with h | h
          · rw [h]; exact tb k hk
          · rw [h]; exact Nat.and_self _
        · exact ih k hk
    exact key L.way
  intro k hk
  have f := L.fix k (by rw [len]; exact hk)
  rw [wo k kn hk] at f
  rcases inv k hk with h | h
  · rw [h, tb k hk] at f
    rw [h]; exact f.symm
  · exact h
end SW
namespace AL
open PySem PySem.Spec L2
open PyProof.Rows hiding St
/-! ### a def that may raise, called where it does not -/
theorem FnOk.calm {P : Program} {w : World} {K : PySem.W.Frag} {mg : Str → Option Value} {base : Heap} {k : Nat} {f : Addr} {fd : FuncData} {ps : List Str} {sp : ASp} (F : FnOk P w K mg base (L2.CX P w) k f fd ps (low ⟨P, w, K⟩ sp)) :
    FnOk P w K mg base CX0 k f fd ps (low ⟨P, w, K⟩ fun ws G Q _ => sp ws G Q noE) := by
  have lw : ∀ {vs H Q E}, low ⟨P, w, K⟩ (fun ws G Q _ => sp ws G Q noE) vs H Q E → low ⟨P, w, K⟩ sp vs H Q E0 := fun {vs H Q E} ⟨ws, G, Kc, KE, r, g, h, q, _⟩ => ⟨ws, G, Kc, noE, r, g, h, q, fun _ _ _ ⟨_, _, _, z⟩ => z.elim⟩
  refine ⟨fun vs H Q E h => F.len vs H Q E0 (lw h), fun A outer s H args us vs Q E hr he hb hv hs => ?_⟩
  refine codeAny_mono (F.run A outer s H args us vs Q E0 hr he hb hv (lw hs)) fun r s' hq => ?_
  cases r with
  | error e =>
    obtain ⟨_, _, _, _, _, _, _, _, _, _, _, _, z⟩ := (show L2.CX P w outer H s E0 e s' from hq)
    exact z.elim
  | ok fl =>
    cases fl with
    | ret u => exact hq
    | next => exact False.elim hq
    | brk => exact False.elim hq
    | cont => exact False.elim hq
theorem CalX.calm {P : Program} {w : World} {K : PySem.W.Frag} {mg : Str → Option Value} {base : Heap} {x : Str} {k : Nat} {ps : List Str} {sp : ASp} (C : CalX P w K mg base x k ps sp) : Cal P w K mg base x k ps fun ws G Q _ => sp ws G Q noE := by
  obtain ⟨f, fd, F, a, b, c⟩ := C.ex
  exact ⟨f, fd, FnOk.calm F, a, b, c⟩
end AL
namespace SW
open PySem PySem.Spec L2 AL
section
variable {P : Program} {w : World} {K : PySem.W.Frag} {mg : Str → Option Value} {base : Heap}
/-! ### _law_tree, _law_big of k85 -/
abbrev sLt : Stmt := top 47
abbrev nLt : List Str := ["word", "number", "deep", "tree", "step"]
theorem sc_lt : FnScope nLt ["word", "number", "deep"] (defScope sLt) := ⟨rfl, rfl, rfl, by decide +kernel, rfl, by decide +kernel, by decide +kernel⟩
def spLt : ASp := fun ws G K _ => ∃ (wd : Str) (z : Int) (d : Nat), ws = [.str wd, .int z, .int d] ∧ 1 ≤ d ∧ d ≤ 60 ∧ K (nestT wd z (d - 1)).W G
theorem ok_lt {f : Addr} {fd : FuncData} (F : Fun K "_law_tree" "_law_tree" sLt f fd) (B : Bl mg) : FnOk P w K mg base CX0 1 f fd ["word", "number", "deep"] (low ⟨P, w, K⟩ spLt) := by
  refine fnA_of F sc_lt (fun ws G Kc KE ⟨_, _, _, e, _⟩ => by rw [e]; rfl) fun cdv A outer s H E ws G Kc KE hr ⟨wd, z, d, e, d1, d60, kk⟩ => ?_
  subst e
  refine s_cons (s_set (i := 3) sc_lt.nd (q_tup (a_cons (q_str (a_cons (qv 1 rfl (a_nil ?_)))))))
  refine s_cons (s_for PassesOwn.never rfl (i_range1 rfl B.range (q_sub (qv 2 rfl (q_int ?_)))))
  refine ⟨by omega, by omega, fun i ρ' G' => ∃ v, ρ' = [some (.str wd), some (.int z), some (.int d), some (nestT wd z i).W, v] ∧ G' = G, ⟨none, rfl, rfl⟩, fun _ _ _ _ _ => trivial, fun i x ρ' G' hx ⟨v, e1, e2⟩ => ?_, fun ρ' G' ⟨v, e1, e2⟩ => ?_⟩
  · subst e1 e2
    refine g_name (i := 4) sc_lt.nd ?_
    refine s_cons (s_set (i := 3) sc_lt.nd (q_tup (a_cons (q_str (a_cons (qv 0 rfl (a_cons (q_tup (a_cons (qv 3 rfl (a_nil (a_nil ?_))))))))))))
    exact s_nil ⟨_, rfl, rfl⟩
  · subst e1 e2
    rw [rngW_length, show ((d : Int) - 1).toNat = d - 1 by omega]
    exact s_cons (s_ret (qv 3 rfl ⟨_, Sub.refl, kk⟩))
abbrev sLb : Stmt := top 48
abbrev nLb : List Str := ["terms", "leads", "choice", "caught", "error", "others"]
theorem sc_lb : FnScope nLb ["terms", "leads", "choice"] (defScope sLb) := ⟨rfl, rfl, rfl, by decide +kernel, rfl, by decide +kernel, by decide +kernel⟩
/-- the errors' classes that the law names -/
structure ErC (K : PySem.W.Frag) (mg : Str → Option Value) (TB SE NT NR NW FU AP TW : Addr) : Prop where
  gSE : mg "SameError" = some (.ref SE)
  gTB : mg "TooBig" = some (.ref TB)
  gNT : mg "NoTree" = some (.ref NT)
  gNR : mg "NoRule" = some (.ref NR)
  gNW : mg "NoRow" = some (.ref NW)
  gFU : mg "Full" = some (.ref FU)
  gAP : mg "Apart" = some (.ref AP)
  gTW : mg "TooWide" = some (.ref TW)
  gVE : mg "ValueError" = none
  ex : PySem.W.exmOne K (.ref TB) (.ref SE) = some true
  ec : ExcC K TB
  k1 : PySem.W.kitOne K (.ref TB) (.ref TB) = some true
  k2 : PySem.W.kitOne K (.ref TB) (.type "ValueError") = some true
  k3 : PySem.W.kitAny K (.ref TB) [.ref NT, .ref NR, .ref NW, .ref FU, .ref AP, .ref TW] = some false
def spLb : ASp := fun ws G K _ => ∃ (t l ch : W) (ts : List Tm) (ls : List Nat) (p : Nat → Option Nat) (ord : List Nat) (S : Nat → Nat × Nat) (T : Nat → Tr) (lead : Nat), ws = [t, l, ch] ∧ OIn G t l ch ts ls p ord ∧ (∀ x ∈ ord, S x = szF (nxF ts ls p) S x) ∧ (∀ x ∈ ord, T x = trF ts ls p T x) ∧ ord.getLast? = some lead ∧ bigS (S lead) ∧ K (.bl true) G
theorem ok_lb {TB SE NT NR NW FU AP TW : Addr} {f : Addr} {fd : FuncData} (F : Fun K "_law_big" "_law_big" sLb f fd) (B : Bl mg) (E : ErC K mg TB SE NT NR NW FU AP TW) (CT : CalX P w K mg base "taken" 3 ["terms", "leads", "choice"] (spTk TB)) : FnOk P w K mg base CX0 4 f fd ["terms", "leads", "choice"] (low ⟨P, w, K⟩ spLb) := by
  refine fnA_of F sc_lb (fun ws G Kc KE ⟨_, _, _, _, _, _, _, _, _, _, e, _⟩ => by rw [e]; rfl) fun cdv A outer s H E' ws G Kc KE hr ⟨t, l, ch, ts, ls, p, ord, S, T, lead, e, I, hS, hT, hl, hb, kk⟩ => ?_
  subst e
  refine s_cons (s_set (i := 3) sc_lb.nd (q_non ?_))
  refine s_cons (s_tryKeepE (c := .ref SE) CT hr ⟨rfl, by decide, .inl E.gSE⟩ sc_lb.nd 4 3 fun pn xe => ?_)
  refine a_cons (qv 0 rfl (a_cons (qv 1 rfl (a_cons (qv 2 rfl (a_nil ⟨t, l, ch, ts, ls, p, ord, S, T, lead, rfl, I, hS, hT, hl, fun _ => ⟨E.ex, fun a ha => ?_⟩, fun nb => absurd hb nb⟩))))))
  refine SQ.st [some t, some l, some ch, some (.ref a), none, none] rfl ?_
  refine s_cons (s_set (i := 5) sc_lb.nd (q_isE B.isinstance (a_cons (qv 3 rfl (a_cons (q_tup (a_cons (q_gref E.gNT (a_cons (q_gref E.gNR (a_cons (q_gref E.gNW (a_cons (q_gref E.gFU (a_cons (q_gref E.gAP (a_cons (q_gref E.gTW (a_nil (a_nil ⟨TB, _, false, aup_same, E.ec, rfl, E.k3, ?_⟩))))))))))))))))))))
  refine s_cons (s_ret (q_and (q_isE B.isinstance (a_cons (qv 3 rfl (a_cons (q_gref E.gTB (a_nil ⟨TB, _, true, aup_same, E.ec, rfl, E.k1, ?_⟩))))))))
  refine ifB_T rfl (q_and (q_isE B.isinstance (a_cons (qv 3 rfl (a_cons (q_ty E.gVE rfl (a_nil ⟨TB, _, true, aup_same, E.ec, rfl, E.k2, ?_⟩)))))))
  refine ifB_T rfl (q_one (q_not (qv 5 rfl ?_)))
  exact ⟨G, Sub.new ha, kk⟩
end
end SW
namespace SW
open PySem PySem.Spec L2 AL
/-! ### _law_same: two values told alike -/
def Sc : W → Prop
  | .non => True
  | .int _ => True
  | .str _ => True
  | _ => False
def SameW (G : AH) : Nat → W → W → Prop
  | 0, x, y => x = y ∧ Sc x
  | d + 1, x, y => (x = y ∧ Sc x) ∨ ∃ zs : List (W × W), zs.length ≤ 4000 ∧ (∀ z ∈ zs, SameW G d z.1 z.2) ∧ ((LsA G x (zs.map Prod.fst) ∧ LsA G y (zs.map Prod.snd)) ∨ (x = .tup (zs.map Prod.fst) ∧ y = .tup (zs.map Prod.snd)))
theorem SameW.sub {G G' : AH} (s : Sub G G') : ∀ {d : Nat} {x y : W}, SameW G d x y → SameW G' d x y
  | 0, _, _, h => h
  | d + 1, _, _, h => by
    rcases h with h | ⟨zs, hl, ha, h⟩
    · exact .inl h
    · exact .inr ⟨zs, hl, fun z hz => SameW.sub s (ha z hz), h.imp (fun ⟨a, b⟩ => ⟨a.sub s, b.sub s⟩) id⟩
theorem SameW.up {G : AH} : ∀ {d : Nat} {x y : W}, SameW G d x y → SameW G (d + 1) x y
  | 0, _, _, h => .inl h
  | _ + 1, _, _, .inl h => .inl h
  | _ + 1, _, _, .inr ⟨zs, l, h, k⟩ => .inr ⟨zs, l, fun z hz => (h z hz).up, k⟩
theorem SameW.sc {G : AH} {x y : W} : ∀ {d : Nat}, x = y → Sc x → SameW G d x y
  | 0, e, s => ⟨e, s⟩
  | _ + 1, e, s => .inl ⟨e, s⟩
theorem tyW_ls {G : AH} {x : W} {xs : List W} (h : LsA G x xs) : tyW G x = some "list" := by
  cases x with
  | lst ws => rfl
  | ref a => show tyO (G a) = _; rw [show G a = some (.lst xs) from h]; rfl
  | _ => exact h.elim
theorem zip_map' (zs : List (W × W)) : ziW (zs.map Prod.fst) (zs.map Prod.snd) = zs.map fun z => .tup [z.1, z.2] := by
  unfold ziW
  congr 1
  induction zs with
  | nil => rfl
  | cons z zs ih => rw [List.map_cons, List.map_cons, List.zip_cons_cons, ih]
section
variable {P : Program} {w : World} {K : PySem.W.Frag} {mg : Str → Option Value} {base : Heap}
abbrev sSame : Stmt := top 43
abbrev nSame : List Str := ["found", "due", "one", "other"]
theorem sc_same : FnScope nSame ["found", "due"] (defScope sSame) := ⟨rfl, rfl, rfl, by decide +kernel, rfl, by decide +kernel, by decide +kernel⟩
def spSame (d : Nat) : ASp := fun ws G K _ => ∃ (x y : W), ws = [x, y] ∧ SameW G d x y ∧ K (.bl true) G
theorem same_sc {f : Addr} {fd : FuncData} (F : Fun K "_law_same" "_law_same" sSame f fd) (B : Bl mg) (d : Nat) {cdv : Value} {A : Around} {outer : List Env} {s : Shared} {H : Hp} {E : XK} {x : W} {G : AH} {A' : AEnds} (hr : Room d (A.deeper (PyProof.Rows.envOfC "_law_same" (defScope sSame) s.heap.objs.size f cdv))) (hs : Sc x) (k : A'.rt (.bl true) G) :
    SQ (cxOf CX0 P w K mg base nSame "_law_same" (defScope sSame) f cdv A outer s H E).nox (defBody sSame) [some x, some x, none, none] G A' := by
  cases x with
  | non =>
    refine s_cons (s_if (b_val (q_isi B.isinstance (a_cons (qv 1 rfl (a_cons (q_tup (a_cons (q_ty B.list rfl (a_cons (q_ty B.tuple rfl (a_nil (a_nil ?_)))))))))))))
    refine ⟨"NoneType", false, rfl, rfl, ifB_F rfl (s_nil ?_)⟩
    refine s_cons (s_if (WQ.test (w_or (b_is (qv 1 rfl (q_non (ifB_T rfl ?_)))))))
    refine ifB_T rfl ?_
    refine s_cons (s_ret (q_and (q_eq (u64 hr) (q_isi B.isinstance (a_cons (qv 0 rfl (a_cons (q_ty B.str rfl (a_nil ⟨"NoneType", false, rfl, rfl, ?_⟩)))))))))
    refine q_isi B.isinstance (a_cons (qv 1 rfl (a_cons (q_ty B.str rfl (a_nil ⟨"NoneType", false, rfl, rfl, ?_⟩)))))
    refine ifB_T rfl (q_one (q_eq (u64 hr) (qv 0 rfl (qv 1 rfl (fEq_ok rfl ?_)))))
    exact k
  | int i =>
    refine s_cons (s_if (b_val (q_isi B.isinstance (a_cons (qv 1 rfl (a_cons (q_tup (a_cons (q_ty B.list rfl (a_cons (q_ty B.tuple rfl (a_nil (a_nil ?_)))))))))))))
    refine ⟨"int", false, rfl, rfl, ifB_F rfl (s_nil ?_)⟩
    refine s_cons (s_if (WQ.test (w_or (b_is (qv 1 rfl (q_non (ifB_F rfl ?_)))))))
    refine w_or1 (b_val (q_isi B.isinstance (a_cons (qv 1 rfl (a_cons (q_ty B.str rfl (a_nil ⟨"int", false, rfl, rfl, ?_⟩)))))))
    refine ifB_F rfl (s_nil ?_)
    refine s_cons (s_ret (q_and (q_isi B.isinstance (a_cons (qv 0 rfl (a_cons (q_ty B.int rfl (a_nil ⟨"int", true, rfl, rfl, ?_⟩))))))))
    refine ifB_T rfl (q_and (q_eq (u64 hr) (q_isi B.isinstance (a_cons (qv 0 rfl (a_cons (q_ty B.bool rfl (a_nil ⟨"int", false, rfl, rfl, ?_⟩))))))))
    refine q_isi B.isinstance (a_cons (qv 1 rfl (a_cons (q_ty B.bool rfl (a_nil ⟨"int", false, rfl, rfl, ?_⟩)))))
    refine ifB_T rfl (q_one (q_eq (u64 hr) (qv 0 rfl (qv 1 rfl ?_))))
    show A'.rt (.bl (decide (i = i))) G
    rw [decide_eq_true rfl]; exact k
  | str z =>
    refine s_cons (s_if (b_val (q_isi B.isinstance (a_cons (qv 1 rfl (a_cons (q_tup (a_cons (q_ty B.list rfl (a_cons (q_ty B.tuple rfl (a_nil (a_nil ?_)))))))))))))
    refine ⟨"str", false, rfl, rfl, ifB_F rfl (s_nil ?_)⟩
    refine s_cons (s_if (WQ.test (w_or (b_is (qv 1 rfl (q_non (ifB_F rfl ?_)))))))
    refine w_or1 (b_val (q_isi B.isinstance (a_cons (qv 1 rfl (a_cons (q_ty B.str rfl (a_nil ⟨"str", true, rfl, rfl, ?_⟩)))))))
    refine ifB_T rfl ?_
    refine s_cons (s_ret (q_and (q_eq (u64 hr) (q_isi B.isinstance (a_cons (qv 0 rfl (a_cons (q_ty B.str rfl (a_nil ⟨"str", true, rfl, rfl, ?_⟩)))))))))
    refine q_isi B.isinstance (a_cons (qv 1 rfl (a_cons (q_ty B.str rfl (a_nil ⟨"str", true, rfl, rfl, ?_⟩)))))
    refine ifB_T rfl (q_one (q_eq (u64 hr) (qv 0 rfl (qv 1 rfl ?_))))
    show A'.rt (.bl (decide (z = z))) G
    rw [decide_eq_true rfl]; exact k
  | _ => exact hs.elim
theorem ok_same {f : Addr} {fd : FuncData} (F : Fun K "_law_same" "_law_same" sSame f fd) (B : Bl mg) (hm : mg "_law_same" = some (.ref f)) (hk : PySem.W.keepIn K (.ref f) = true) (hb : Binds K fd ["found", "due"] []) : ∀ d, FnOk P w K mg base CX0 (d + 1) f fd ["found", "due"] (low ⟨P, w, K⟩ (spSame d)) := by
  intro d
  induction d with
  | zero =>
    refine fnA_of F sc_same (fun ws G Kc KE ⟨_, _, e, _⟩ => by rw [e]; rfl) fun cdv A outer s H E ws G Kc KE hr ⟨x, y, e, ⟨hxy, hs⟩, kk⟩ => ?_
    subst e hxy
    refine same_sc F B _ hr hs ?_
    exact ⟨_, Sub.refl, kk⟩
  | succ d ih =>
    have CR : Cal P w K mg base "_law_same" (d + 1) ["found", "due"] (spSame d) := ⟨⟨f, fd, ih, hm, hk, hb⟩⟩
    refine fnA_of F sc_same (fun ws G Kc KE ⟨_, _, e, _⟩ => by rw [e]; rfl) fun cdv A outer s H E ws G Kc KE hr ⟨x, y, e, hxy, kk⟩ => ?_
    subst e
    rcases hxy with ⟨hxy, hs⟩ | ⟨zs, hl, ha, ⟨hx, hy⟩ | ⟨rfl, rfl⟩⟩
    · subst hxy
      refine same_sc F B _ hr hs ?_
      exact ⟨_, Sub.refl, kk⟩
    · have tx := tyW_ls hx
      have ty := tyW_ls hy
      refine s_cons (s_if (b_val (q_isi B.isinstance (a_cons (qv 1 rfl (a_cons (q_tup (a_cons (q_ty B.list rfl (a_cons (q_ty B.tuple rfl (a_nil (a_nil ?_)))))))))))))
      refine ⟨"list", true, ty, rfl, ifB_T rfl ?_⟩
      refine s_cons (s_if (WQ.test (w_or (b_ne (u64 hr) (q_isi B.isinstance (a_cons (qv 0 rfl (a_cons (q_ty B.list rfl (a_nil ⟨"list", true, tx, rfl, ?_⟩))))))))))
      refine q_isi B.isinstance (a_cons (qv 1 rfl (a_cons (q_ty B.list rfl (a_nil ⟨"list", true, ty, rfl, ?_⟩)))))
      refine ifB_F rfl (w_or1 (b_ne (u64 hr) (q_isi B.isinstance (a_cons (qv 0 rfl (a_cons (q_ty B.tuple rfl (a_nil ⟨"list", false, tx, rfl, ?_⟩))))))))
      refine q_isi B.isinstance (a_cons (qv 1 rfl (a_cons (q_ty B.tuple rfl (a_nil ⟨"list", false, ty, rfl, ?_⟩)))))
      refine ifB_F rfl (s_nil ?_)
      refine s_cons (s_ret (q_and (q_eq (u64 hr) (q_len B.len (a_cons (qv 0 rfl (a_nil (fLen_ls hx ?_))))))))
      refine q_len B.len (a_cons (qv 1 rfl (a_nil (fLen_ls hy ?_))))
      rw [List.length_map, List.length_map]
      refine ifB_T (decide_eq_true rfl) (q_one (q_all B.all (a_cons (q_lc sc_same.nd (blkOk_by (N := nSame) (sc := defScope sSame) (own := [("one", 2), ("other", 3)]) (by decide +kernel)) (i_zip rfl B.zip (qv 0 rfl (qv 1 rfl ⟨_, _, hx, hy, ?_⟩)))))))
      rw [zip_map']
      refine lk_map2 (zs := zs) Prod.fst Prod.snd (fun _ => W.bl true) sc_same.nd (by omega) (fun D ws hD => ⟨hx.sub (Sub.new hD), hy.sub (Sub.new hD)⟩) (fun z hz D ws hD s0 H0 C cl fp => ?_) (fun D hD => ?_)
      · exact q_cal CR hr (a_cons (qv 2 rfl (a_cons (qv 3 rfl (a_nil ⟨z.1, z.2, rfl, (ha z hz).sub (Sub.new hD), rfl, rfl⟩)))))
      · refine a_nil ⟨zs.map fun _ => true, by rw [List.map_map]; exact aup_same, ?_⟩
        rw [show (zs.map fun _ => true).all id = true by simp]
        exact ⟨G, Sub.new hD, kk⟩
    · refine s_cons (s_if (b_val (q_isi B.isinstance (a_cons (qv 1 rfl (a_cons (q_tup (a_cons (q_ty B.list rfl (a_cons (q_ty B.tuple rfl (a_nil (a_nil ?_)))))))))))))
      refine ⟨"tuple", true, rfl, rfl, ifB_T rfl ?_⟩
      refine s_cons (s_if (WQ.test (w_or (b_ne (u64 hr) (q_isi B.isinstance (a_cons (qv 0 rfl (a_cons (q_ty B.list rfl (a_nil ⟨"tuple", false, rfl, rfl, ?_⟩))))))))))
      refine q_isi B.isinstance (a_cons (qv 1 rfl (a_cons (q_ty B.list rfl (a_nil ⟨"tuple", false, rfl, rfl, ?_⟩)))))
      refine ifB_F rfl (w_or1 (b_ne (u64 hr) (q_isi B.isinstance (a_cons (qv 0 rfl (a_cons (q_ty B.tuple rfl (a_nil ⟨"tuple", true, rfl, rfl, ?_⟩))))))))
      refine q_isi B.isinstance (a_cons (qv 1 rfl (a_cons (q_ty B.tuple rfl (a_nil ⟨"tuple", true, rfl, rfl, ?_⟩)))))
      refine ifB_F rfl (s_nil ?_)
      refine s_cons (s_ret (q_and (q_eq (u64 hr) (q_len B.len (a_cons (qv 0 rfl (a_nil ?_)))))))
      refine q_len B.len (a_cons (qv 1 rfl (a_nil ?_)))
      dsimp only [fLen]
      rw [List.length_map, List.length_map]
      refine ifB_T (decide_eq_true rfl) (q_one (q_all B.all (a_cons (q_lc sc_same.nd (blkOk_by (N := nSame) (sc := defScope sSame) (own := [("one", 2), ("other", 3)]) (by decide +kernel)) (i_zipT rfl B.zip (qv 0 rfl (qv 1 rfl ?_)))))))
      show LcK _ _ _ _ _ _ _ _ (ziW _ _) _ _
      rw [zip_map']
      refine lk_map2 (zs := zs) Prod.fst Prod.snd (fun _ => W.bl true) sc_same.nd (by omega) (fun D ws hD => trivial) (fun z hz D ws hD s0 H0 C cl fp => ?_) (fun D hD => ?_)
      · exact q_cal CR hr (a_cons (qv 2 rfl (a_cons (qv 3 rfl (a_nil ⟨z.1, z.2, rfl, (ha z hz).sub (Sub.new hD), rfl, rfl⟩)))))
      · refine a_nil ⟨zs.map fun _ => true, by rw [List.map_map]; exact aup_same, ?_⟩
        rw [show (zs.map fun _ => true).all id = true by simp]
        exact ⟨G, Sub.new hD, kk⟩
end
end SW
namespace SW
open PySem PySem.Spec L2 AL
/-! ### plain: costs and choices of names in a row -/
structure CoN (wd : Str) (z : Int) (kws : List (Key × W)) (kc lc : Nat) : Prop where
  ok : CsOk kws
  k : (lk kws (.inr wd)).getD (.int 1) = .int (kc : Nat)
  l : (lk kws (.inr ("#" : Str))).getD (.int 1) = .int (lc : Nat)
  cs : ∃ big, CsN wd z (cst kws) kc lc big
theorem lw_ne {wd : Str} (h : Lw wd) : wd ≠ "#" ∧ wd ≠ "@" := by
  refine ⟨fun e => ?_, fun e => ?_⟩
  · subst e
    have := h 35 (by decide +kernel)
    omega
  · subst e
    have := h 64 (by decide +kernel)
    omega
theorem co_ok {wd : Str} {z : Int} {kws : List (Key × W)} {big : Nat} {o1 o2 : Option Nat} (hb : 1000 ≤ big) (b1 : ∀ n, o1 = some n → 1 ≤ n ∧ n ≤ 9) (b2 : ∀ n, o2 = some n → 1 ≤ n ∧ n ≤ 9) (lw : Lw wd)
    (h : ∀ k, lk kws k = if k = .inr wd then o2.map fun n => W.int (n : Nat) else if k = .inr "#" then o1.map fun n => W.int (n : Nat) else if k = .inr "@" then some (.int (big : Nat)) else none) : CoN wd z kws (o2.getD 1) (o1.getD 1) := by
  obtain ⟨w1, w2⟩ := lw_ne lw
  have n1 : ¬ ((.inr "#" : Key) = .inr wd) := fun e => w1 (by injection e with e; exact e.symm)
  have n2 : ¬ ((.inr "@" : Key) = .inr wd) := fun e => w2 (by injection e with e; exact e.symm)
  have n3 : ¬ ((.inr "@" : Key) = .inr "#") := fun e => by injection e with e; revert e; decide +kernel
  have hk := h (.inr wd)
  rw [if_pos rfl] at hk
  have hl := h (.inr "#")
  rw [if_neg n1, if_pos rfl] at hl
  have ha := h (.inr "@")
  rw [if_neg n2, if_neg n3, if_pos rfl] at ha
  have vk : (lk kws (.inr wd)).getD (.int 1) = .int (o2.getD 1 : Nat) := by rw [hk]; cases o2 <;> rfl
  have vl : (lk kws (.inr ("#" : Str))).getD (.int 1) = .int (o1.getD 1 : Nat) := by rw [hl]; cases o1 <;> rfl
  have ok : CsOk kws := fun k w e => by
    rw [h k] at e
    split at e
    · cases o2 with
      | none => cases e
      | some n => cases e; exact ⟨n, rfl, (b2 n rfl).1⟩
    · split at e
      · cases o1 with
        | none => cases e
        | some n => cases e; exact ⟨n, rfl, (b1 n rfl).1⟩
      · split at e
        · cases e; exact ⟨big, rfl, by omega⟩
        · cases e
  refine ⟨ok, vk, vl, big, fun x => ?_, hb, fun ks => ?_, ?_, ?_, ?_⟩
  · have := cst_get ok (.name x)
    rw [show ky (.name x) = "@" from rfl, ha] at this
    injection this with e; omega
  · have := cst_get ok (.of wd ks)
    rw [show ky (.of wd ks) = wd from rfl, vk] at this
    injection this with e; omega
  · have := cst_get ok (.num z)
    rw [show ky (.num z) = "#" from rfl, vl] at this
    injection this with e; omega
  · cases o2 with
    | none => decide
    | some n => exact (b2 n rfl).2
  · cases o1 with
    | none => decide
    | some n => exact (b1 n rfl).2
theorem cst3 (wd : Str) (b r1 r2 : W) (k : Key) : lk (mgW [] [((.inr "@" : Key), b), (.inr "#", r1), (.inr wd, r2)]) k = if k = .inr wd then some r2 else if k = .inr "#" then some r1 else if k = .inr "@" then some b else none := by
  show lk (pk (pk (pk [] (.inr "@") b) (.inr "#") r1) (.inr wd) r2) k = _
  rw [lk_pk, lk_pk, lk_pk]; rfl
/-- the choice of a name in a row -/
def choN (M : Nat) (rev : Bool) (i : Nat) : List W := W.tup [.int (M - 1 : Nat), .int (2 * M - 1 : Nat)] :: (List.range (M - 1 - i)).map fun u => W.tup [.int (M - 2 - u : Nat), .int (atN M rev (M - 2 - u) : Nat)]
theorem cho_eq {M : Nat} {rev : Bool} {p : Nat → Option Nat} (hp : ∀ i, i < M → p i = some (pkN M rev i)) {i : Nat} (hi : i < M) : rwW p (ordD M i) = choN M rev i := by
  unfold rwW ordD choN
  rw [show M - i = (M - 1 - i) + 1 by omega, List.range_succ_eq_map, List.map_cons, List.map_cons, List.map_map, List.map_map]
  congr 1
  · rw [show M - 1 - 0 = M - 1 by omega, hp (M - 1) (by omega)]
    show W.tup [.int (M - 1 : Nat), .int (pkN M rev (M - 1) : Nat)] = _
    unfold pkN
    rw [if_pos rfl]
  · refine List.map_congr_left fun u hu => ?_
    have := List.mem_range.mp hu
    show W.tup [.int (M - 1 - (u + 1) : Nat), .int ((p (M - 1 - (u + 1))).getD 0 : Nat)] = _
    rw [show M - 1 - (u + 1) = M - 2 - u by omega, hp (M - 2 - u) (by omega)]
    show W.tup [.int (M - 2 - u : Nat), .int (pkN M rev (M - 2 - u) : Nat)] = _
    unfold pkN
    rw [if_neg (by omega)]
theorem cho_len {M : Nat} {rev : Bool} {i : Nat} (h : i < M) : (choN M rev i).length = M - i := by
  unfold choN
  rw [List.length_cons, List.length_map, List.length_range]; omega
/-- two rows of numbers that are the same -/
theorem same_int (G : AH) (d : Nat) (n : Int) : SameW G d (.int n) (.int n) := by
  cases d with
  | zero => exact ⟨rfl, trivial⟩
  | succ d => exact .inl ⟨rfl, trivial⟩
theorem same_ls {G : AH} {d : Nat} {x y : W} {xs : List W} (h1 : LsA G x xs) (h2 : LsA G y xs) (l : xs.length ≤ 4000) (h : ∀ z ∈ xs, SameW G d z z) : SameW G (d + 1) x y := by
  refine .inr ⟨xs.map fun z => (z, z), by rw [List.length_map]; exact l, fun z hz => ?_, .inl ⟨?_, ?_⟩⟩
  · obtain ⟨q, hq, rfl⟩ := List.mem_map.mp hz
    exact h q hq
  · rw [List.map_map, show (Prod.fst ∘ fun z : W => (z, z)) = id from rfl, List.map_id]; exact h1
  · rw [List.map_map, show (Prod.snd ∘ fun z : W => (z, z)) = id from rfl, List.map_id]; exact h2
theorem same_tup2 {G : AH} {d : Nat} {a b c e : W} (h1 : SameW G d a c) (h2 : SameW G d b e) : SameW G (d + 1) (.tup [a, b]) (.tup [c, e]) :=
  .inr ⟨[(a, c), (b, e)], by show 2 ≤ 4000; decide, fun z hz => by
    rcases List.mem_cons.mp hz with rfl | hz
    · exact h1
    · rw [List.mem_singleton] at hz; subst hz; exact h2, .inr ⟨rfl, rfl⟩⟩
theorem rng0N (n : Nat) : rngW 0 1 n = (List.range n).map fun (j : Nat) => W.int j := by
  refine List.ext_getElem? fun i => ?_
  cases e : (rngW 0 1 n)[i]? with
  | none =>
    have := List.getElem?_eq_none_iff.mp e
    rw [rngW_length] at this
    rw [List.getElem?_eq_none (by rw [List.length_map, List.length_range]; exact this)]
  | some x =>
    obtain ⟨hi, rfl⟩ := rng0_item e
    rw [List.getElem?_map, List.getElem?_range hi]; rfl
theorem rng_down {M i : Nat} (hi : i < M) : rngW ((M : Int) - 2) (-1) (M - 1 - i) = ((List.range (M - 1 - i)).map fun u => M - 2 - u).map fun (j : Nat) => W.int (j : Nat) := by
  refine List.ext_getElem? fun u => ?_
  by_cases hu : u < M - 1 - i
  · rw [rngW_get hu, List.getElem?_map, List.getElem?_map, List.getElem?_range hu]
    show some (W.int ((M : Int) - 2 + (u : Nat) * -1)) = some (W.int ((M - 2 - u : Nat) : Int))
    congr 2; omega
  · rw [List.getElem?_eq_none (by rw [rngW_length]; omega), List.getElem?_eq_none (by rw [List.length_map, List.length_map, List.length_range]; omega)]
theorem ls_take (M : Nat) (rev : Bool) : (lsN M rev).take M = List.range M := by
  refine List.ext_getElem? fun i => ?_
  by_cases h : i < M
  · unfold lsN
    rw [List.getElem?_take_of_lt h, List.getElem?_map, List.getElem?_range (by omega), List.getElem?_range h]
    show some (ldN M rev i) = _
    rw [ldN_name h]
  · rw [List.getElem?_eq_none (by rw [List.length_take]; omega), List.getElem?_eq_none (by rw [List.length_range]; omega)]
end SW
namespace SW
open PySem PySem.Spec L2 AL
section
variable {P : Program} {w : World} {K : PySem.W.Frag} {mg : Str → Option Value} {base : Heap}
/-! ### _law_cheap_right of k85 -/
abbrev sCr : Stmt := top 49
abbrev nCr : List Str := ["box", "case", "leads", "terms", "at", "word", "number", "many", "costs", "knot", "leaf", "due", "step", "i", "choice", "deep", "j"]
theorem sc_cr : FnScope nCr ["box", "case", "leads"] (defScope sCr) := ⟨rfl, rfl, rfl, by decide +kernel, rfl, by decide +kernel, by decide +kernel⟩
theorem addI {i j : Int} {G : AH} {Q : W → AH → Prop} (h : Q (.int (i + j)) G) : fAdd (.int i) (.int j) G Q := h
theorem mulI {i j : Int} {G : AH} {Q : W → AH → Prop} (c : CMul i j) (h : Q (.int (i * j)) G) : fMul (.int i) (.int j) G Q := ⟨CMul.ok c, h⟩
theorem subI {i j : Int} {G : AH} {Q : W → AH → Prop} (h : Q (.int (i - j)) G) : fSub (.int i) (.int j) G Q := h
/-- what a case of k85 is -/
structure CaI (G : AH) (d : Addr) (l : W) (kws : List (Key × W)) (nm : List Str) (wd : Str) (z : Int) (rev : Bool) : Prop where
  hD : G d = some (.dK kws)
  di : DI nm.length kws (atI' nm.length rev)
  len : kws.length = nm.length - 1
  R : RowN nm wd z
  hL : LsA G l (nW (lsN nm.length rev))
def caW (d : Addr) (nm : List Str) (wd : Str) (z : Int) (rev : Bool) : W := .tup [.lst (tW (tsN nm wd z rev)), .ref d, .str wd, .int z]
def spCr : ASp := fun ws G K _ => ∃ (a d : Addr) (l : W) (kws : List (Key × W)) (nm : List Str) (wd : Str) (z : Int) (rev : Bool) (n : Nat), ws = [.ref a, caW d nm wd z rev, l] ∧ CaI G d l kws nm wd z rev ∧ BoxAt G a (n + 10) ∧ d ≠ a ∧ l ≠ .ref a ∧ ∀ G', Upto [a] G G' → BoxAt G' a n → K (.bl true) G'
theorem CaI.upto {G G' : AH} {a d : Addr} {l : W} {kws : List (Key × W)} {nm : List Str} {wd : Str} {z : Int} {rev : Bool} (h : CaI G d l kws nm wd z rev) (U : Upto [a] G G') (n1 : d ≠ a) (n2 : l ≠ .ref a) : CaI G' d l kws nm wd z rev := by
  refine ⟨U.at1 h.hD n1, h.di, h.len, h.R, ?_⟩
  have hL := h.hL
  cases l with
  | ref q => exact U.at1 (show G q = some (.lst _) from hL) (fun z => n2 (by rw [z]))
  | _ => exact hL
theorem ok_cr {TB : Addr} {f : Addr} {fd : FuncData} (F : Fun K "_law_cheap_right" "_law_cheap_right" sCr f fd) (B : Bl mg) (CTk : Cal P w K mg base "_law_take" 1 ["box", "many"] spTake) (CS : Cal P w K mg base "_law_same" 4 ["found", "due"] (spSame 3))
    (CP : Cal P w K mg base "prices" 4 ["terms", "leads", "costs"] spPr) (CCh : Cal P w K mg base "cheapest" 4 ["terms", "leads", "costs", "k"] spCh) (CT : CalX P w K mg base "taken" 3 ["terms", "leads", "choice"] (spTk TB)) (CTr : Cal P w K mg base "_law_tree" 1 ["word", "number", "deep"] spLt) (CB : Cal P w K mg base "_law_big" 4 ["terms", "leads", "choice"] spLb) : FnOk P w K mg base CX0 5 f fd ["box", "case", "leads"] (low ⟨P, w, K⟩ spCr) := by
  refine fnA_of F sc_cr (fun ws G Kc KE ⟨_, _, _, _, _, _, _, _, _, e, _⟩ => by rw [e]; rfl) fun cdv A outer s H E ws G Kc KE hr ⟨a, d, l, kws, nm, wd, z, rev, n, e, I, hB, da, la, kk⟩ => ?_
  subst e
  have hr1 : Room 1 (A.deeper (PyProof.Rows.envOfC "_law_cheap_right" (defScope sCr) s.heap.objs.size f cdv)) := hr.mono (by decide)
  have hr3 : Room 3 (A.deeper (PyProof.Rows.envOfC "_law_cheap_right" (defScope sCr) s.heap.objs.size f cdv)) := hr.mono (by decide)
  have szl : sizeLine = 16777216 := rfl
  have R := I.R
  have two := R.two
  have few := R.few
  have tl := tsN_len (rev := rev) R
  have O := lsN_ok (rev := rev) R
  obtain ⟨ts, hts⟩ : ∃ ts, tsN nm wd z rev = ts := ⟨_, rfl⟩
  unfold caW
  refine s_cons (s_asg (qv 1 rfl (g_tup rfl (gs_cons (g_name (i := 3) sc_cr.nd (gs_cons (g_name (i := 4) sc_cr.nd (gs_cons (g_name (i := 5) sc_cr.nd (gs_cons (g_name (i := 6) sc_cr.nd (gs_nil ?_))))))))))))
  refine s_cons (s_set (i := 7) sc_cr.nd (q_add (q_lenD B.len (a_cons (qv 4 rfl (a_nil ⟨_, kws, rfl, .inl I.hD, q_int ?_⟩))))))
  refine SQ.st [some (.ref a), some (caW d nm wd z rev), some l, some (.lst (tW (tsN nm wd z rev))), some (.ref d), some (.str wd), some (.int z), some (.int nm.length), none, none, none, none, none, none, none, none, none] (by have := I.len; show _ = _; rw [show (nm.length : Int) = (kws.length : Int) + 1 by omega]; rfl) ?_
  -- costs
  refine s_cons (s_set (i := 8) sc_cr.nd (q_disp3 fun p hp => ?_))
  have pa : a ≠ p := Upto.boxN hB hp
  refine q_str (q_pow (q_int (q_int ?_)))
  obtain ⟨big, hbig, hb1⟩ : ∃ big : Nat, (10 : Int) ^ (12 : Int).toNat = big ∧ 1000 ≤ big := ⟨1000000000000, by decide, by decide⟩
  refine ⟨by unfold CPow; decide, ?_⟩
  rw [hbig]
  clear hbig
  refine q_str (q_add (q_int (q_cal CTk hr1 (a_cons (qv 0 rfl (a_cons (q_int (a_nil ⟨a, n + 9, 9, rfl, hB.new hp, by decide, by decide, fun z1 G1 x0 x1 off1 hB1 => ?_⟩))))))))
  refine qv 5 rfl (q_add (q_int (q_cal CTk hr1 (a_cons (qv 0 rfl (a_cons (q_int (a_nil ⟨a, n + 8, 9, rfl, hB1, by decide, by decide, fun z2 G2 y0 y1 off2 hB2 => ?_⟩))))))))
  obtain ⟨r1, hr1', r10, r19⟩ : ∃ r : Nat, 1 + z1 = r ∧ 1 ≤ r ∧ r ≤ 9 := ⟨(1 + z1).toNat, by omega, by omega, by omega⟩
  obtain ⟨r2, hr2', r20, r29⟩ : ∃ r : Nat, 1 + z2 = r ∧ 1 ≤ r ∧ r ≤ 9 := ⟨(1 + z2).toNat, by omega, by omega, by omega⟩
  refine addI ?_
  rw [hr1', hr2']
  have hp2 : G2 p = some (.dK []) := by rw [off2 p (by rw [List.mem_singleton]; exact pa.symm), off1 p (by rw [List.mem_singleton]; exact pa.symm)]; exact aup_same
  refine ⟨[(.inr "@", .int (big : Nat)), (.inr "#", .int (r1 : Nat)), (.inr wd, .int (r2 : Nat))], rfl, by show 3 ≤ 15; decide, hp2, ?_⟩
  have up3 : Upto [a] G (aup G2 p (.dK (mgW [] [((.inr "@" : Key), W.int (big : Nat)), (.inr "#", .int (r1 : Nat)), (.inr wd, .int (r2 : Nat))]))) := (((Upto.refl.new hp).trans (.off off1)).trans (.off off2)).putN hp
  have hB3 := hB2.old (o := .dK (mgW [] [((.inr "@" : Key), W.int (big : Nat)), (.inr "#", .int (r1 : Nat)), (.inr wd, .int (r2 : Nat))])) pa
  have hp3 : (aup G2 p (.dK (mgW [] [((.inr "@" : Key), W.int (big : Nat)), (.inr "#", .int (r1 : Nat)), (.inr wd, .int (r2 : Nat))]))) p = some (.dK (mgW [] [((.inr "@" : Key), W.int (big : Nat)), (.inr "#", .int (r1 : Nat)), (.inr wd, .int (r2 : Nat))])) := aup_same
  generalize aup G2 p (.dK (mgW [] [((.inr "@" : Key), W.int (big : Nat)), (.inr "#", .int (r1 : Nat)), (.inr wd, .int (r2 : Nat))])) = G3 at up3 hB3 hp3 ⊢
  have lk3 := cst3 wd (W.int (big : Nat)) (W.int (r1 : Nat)) (W.int (r2 : Nat))
  generalize mgW [] [((.inr "@" : Key), W.int (big : Nat)), (.inr "#", .int (r1 : Nat)), (.inr wd, .int (r2 : Nat))] = k0 at hp3 lk3 ⊢
  clear hp2 off1 off2 hB1 hB2
  have lw := lw_ne R.lw
  refine s_cons (s_cut (P := fun ρ2 G2 => ∃ ckws kc lc, ρ2 = [some (.ref a), some (caW d nm wd z rev), some l, some (.lst (tW (tsN nm wd z rev))), some (.ref d), some (.str wd), some (.int z), some (.int nm.length), some (.ref p), none, none, none, none, none, none, none, none] ∧ G2 p = some (.dK ckws) ∧ CoN wd z ckws kc lc ∧ BoxAt G2 a (n + 6) ∧ Upto [a] G G2) ?_ ?_)
  · refine s_if (b_eq (u64 hr) (q_cal CTk hr1 (a_cons (qv 0 rfl (a_cons (q_int (a_nil ⟨a, n + 7, 3, rfl, hB3, by decide, by decide, fun z4 G4 _ _ off4 hB4 => q_int ?_⟩)))))))
    have hp4 : G4 p = some (.dK k0) := by rw [off4 p (by rw [List.mem_singleton]; exact pa.symm)]; exact hp3
    have up4 := up3.trans (.off off4)
    refine ifB_dec (fun _ => ?_) (fun _ => s_nil ⟨k0, _, _, rfl, hp4, co_ok (o1 := some r1) (o2 := some r2) (z := z) hb1 (fun n e => by cases e; exact ⟨r10, r19⟩) (fun n e => by cases e; exact ⟨r20, r29⟩) R.lw lk3, hB4.less (by omega), up4⟩)
    refine s_cons (s_expr (q_dpop1 (qv 8 rfl ⟨p, k0, rfl, hp4, q_ix (q_lstV (a_cons (q_str (a_cons (qv 5 rfl (a_nil (q_cal CTk hr1 (a_cons (qv 0 rfl (a_cons (q_int (a_nil ⟨a, n + 6, 2, rfl, hB4, by decide, by decide, fun z5 G5 w0 w1 off5 hB5 => ?_⟩))))))))))))⟩)))
    have hp5 : G5 p = some (.dK k0) := by rw [off5 p (by rw [List.mem_singleton]; exact pa.symm)]; exact hp4
    have up5 := up4.trans (.off off5)
    rcases (show z5 = 0 ∨ z5 = 1 by omega) with rfl | rfl
    · refine fIx_ls (xs := [W.str "#", W.str wd]) rfl (v := .str "#") rfl ⟨k0, .inr "#", .int (r1 : Nat), hp5, rfl, ?_, ?_⟩
      · rw [lk3, if_neg (fun e => lw.1 (by injection e with e; exact e.symm)), if_pos rfl]
      · refine s_nil ⟨_, _, _, rfl, aup_same, co_ok (o1 := none) (o2 := some r2) (z := z) hb1 (fun n e => by cases e) (fun n e => by cases e; exact ⟨r20, r29⟩) R.lw fun k => ?_, (hB5.old pa).less (by omega), up5.putN hp⟩
        rw [lk_dr, lk3]
        by_cases c : k = .inr "#"
        · subst c
          rw [if_pos rfl, if_neg (fun e => lw.1 (by injection e with e; exact e.symm)), if_pos rfl]; rfl
        · rw [if_neg c, if_neg c, if_neg c]; rfl
    · refine fIx_ls (xs := [W.str "#", W.str wd]) rfl (v := .str wd) rfl ⟨k0, .inr wd, .int (r2 : Nat), hp5, rfl, ?_, ?_⟩
      · rw [lk3, if_pos rfl]
      · refine s_nil ⟨_, _, _, rfl, aup_same, co_ok (o1 := some r1) (o2 := none) (z := z) hb1 (fun n e => by cases e; exact ⟨r10, r19⟩) (fun n e => by cases e) R.lw fun k => ?_, (hB5.old pa).less (by omega), up5.putN hp⟩
        rw [lk_dr, lk3]
        by_cases c : k = .inr wd
        · rw [if_pos c, if_pos c]; rfl
        · rw [if_neg c, if_neg c, if_neg c]; rfl
  rintro ρ2 G6 ⟨ckws, kc, lc, rfl, hp6, C, hB6, up6⟩
  clear hp3 up3 hB3 lk3
  have I6 := I.upto up6 da la
  obtain ⟨big', CsN'⟩ := C.cs
  -- knot, leaf
  refine s_cons (s_asg (q_tup (a_cons (q_dget2 (u64 hr) (qv 8 rfl ⟨ckws, .inl hp6, qv 5 rfl (q_int ⟨ckws, .inr wd, .inl hp6, rfl, ?_⟩)⟩)))))
  rw [C.k]
  refine a_cons (q_dget2 (u64 hr) (qv 8 rfl ⟨ckws, .inl hp6, q_str (q_int ⟨ckws, .inr "#", .inl hp6, rfl, ?_⟩)⟩))
  rw [C.l]
  refine a_nil (g_tup rfl (gs_cons (g_name (i := 9) sc_cr.nd (gs_cons (g_name (i := 10) sc_cr.nd (gs_nil ?_))))))
  refine SQ.st [some (.ref a), some (caW d nm wd z rev), some l, some (.lst (tW (tsN nm wd z rev))), some (.ref d), some (.str wd), some (.int z), some (.int nm.length), some (.ref p), some (.int kc), some (.int lc), none, none, none, none, none, none] rfl ?_
  -- due
  refine s_cons (s_setLc (i := 11) sc_cr.nd (blkOk_by (N := nCr) (sc := defScope sCr) (own := [("i", 13)]) (by decide +kernel)) (i_range1 rfl B.range (qv 7 rfl ?_)))
  refine ⟨by omega, by omega, ?_⟩
  rw [show ((nm.length : Int)).toNat = nm.length by omega, rng0N]
  refine lk_mapZ (zs := List.range nm.length) (fun (j : Nat) => W.int j) (fun j => W.int ((nm.length - 1 - j) * kc + lc : Nat)) sc_cr.nd (by rw [List.length_range]; omega) (fun _ _ _ => trivial) (fun j hj D ws hD s0 H0 C0 cl fp => ?_) (fun q hq => ?_)
  · have := List.mem_range.mp hj
    refine q_add (q_mul (q_sub (q_sub (qv 7 rfl (q_int (subI (qv 13 rfl (subI (qv 9 rfl (mulI ?_ (qv 10 rfl (addI ⟨?_, rfl⟩))))))))))))
    · exact .inr (by have := CsN'.k1; omega)
    · rw [Int.natCast_add, Int.natCast_mul, show ((nm.length - 1 - j : Nat) : Int) = (nm.length : Int) - 1 - (j : Nat) by omega]
  have I7 := I6.upto ((Upto.refl (l := [a]) (G := G6)).new (o := .lst ((List.range nm.length).map fun j => W.int ((nm.length - 1 - j) * kc + lc : Nat))) hq) da la
  have hB7 := hB6.new (o := .lst ((List.range nm.length).map fun j => W.int ((nm.length - 1 - j) * kc + lc : Nat))) hq
  have hp7 : (aup G6 q (.lst ((List.range nm.length).map fun j => W.int ((nm.length - 1 - j) * kc + lc : Nat)))) p = some (.dK ckws) := aup_new hq hp6
  have hq7 : (aup G6 q (.lst ((List.range nm.length).map fun j => W.int ((nm.length - 1 - j) * kc + lc : Nat)))) q = some (.lst ((List.range nm.length).map fun j => W.int ((nm.length - 1 - j) * kc + lc : Nat))) := aup_same
  have up7 := up6.new (o := .lst ((List.range nm.length).map fun j => W.int ((nm.length - 1 - j) * kc + lc : Nat))) hq
  have qa : a ≠ q := Upto.boxN hB6 hq
  generalize aup G6 q (.lst ((List.range nm.length).map fun j => W.int ((nm.length - 1 - j) * kc + lc : Nat))) = G7 at I7 hB7 hp7 hq7 up7 ⊢
  clear hq hB6 up6 hp6 I6
  -- prices
  refine s_cons (s_if (b_not (b_val (q_cal CS (hr.mono (by decide)) (a_cons (q_sl (q_cal CP (hr.mono (by decide)) (a_cons (qv 3 rfl (a_cons (qv 2 rfl (a_cons (qv 8 rfl (a_nil ⟨_, l, .ref p, tsN nm wd z rev, lsN nm.length rev, ckws, rfl, rfl, I7.hL, .inl hp7, C.ok, O, fun u b Bf hu hb => ?_⟩))))))))))))))
  refine o_non (o_some (qv 7 rfl ?_))
  dsimp only [onI]
  refine fSl_ls (xs := nW ((lsN nm.length rev).map Bf)) (by exact aup_same) fun v hv => ?_
  have ev : cutW (nW ((lsN nm.length rev).map Bf)) none (some (nm.length : Int)) = (List.range nm.length).map fun j => W.int ((nm.length - 1 - j) * kc + lc : Nat) := by
    rw [cutW_to]
    unfold nW
    rw [List.map_map, ← List.map_take, ls_take]
    refine List.map_congr_left fun j hj => ?_
    show W.int (Bf j : Nat) = _
    rw [best_dueI R CsN' hb (List.mem_range.mp hj)]
  rw [ev]
  refine a_cons (qv 11 rfl (a_nil ⟨_, _, rfl, SameW.up (same_ls (d := 1) (xs := (List.range nm.length).map fun j => W.int ((nm.length - 1 - j) * kc + lc : Nat)) (by exact aup_same) (by exact aup_new hv (aup_new hu hq7)) (by rw [List.length_map, List.length_range]; omega) fun x hx => ?_), ?_⟩))
  · obtain ⟨j, _, rfl⟩ := List.mem_map.mp hx
    exact same_int _ _ _
  refine ifB_F rfl (s_nil ?_)
  have U8 : Upto [a] G7 (aup (aup G7 u (.lst (nW ((lsN nm.length rev).map Bf)))) v (.lst ((List.range nm.length).map fun j => W.int ((nm.length - 1 - j) * kc + lc : Nat)))) := (Upto.refl.new hu).new hv
  have hB8 := (hB7.new (o := .lst (nW ((lsN nm.length rev).map Bf))) hu).new (o := .lst ((List.range nm.length).map fun j => W.int ((nm.length - 1 - j) * kc + lc : Nat))) hv
  generalize aup (aup G7 u (.lst (nW ((lsN nm.length rev).map Bf)))) v (.lst ((List.range nm.length).map fun j => W.int ((nm.length - 1 - j) * kc + lc : Nat))) = G8 at U8 hB8 ⊢
  clear hu hv hb ev
  -- turns
  refine s_cons (s_for PassesOwn.never rfl (i_range1 rfl B.range (q_int ?_)))
  refine ⟨by omega, by omega, fun t ρ' G' => ∃ v12 v13 v14 v15, ρ' = [some (.ref a), some (caW d nm wd z rev), some l, some (.lst (tW (tsN nm wd z rev))), some (.ref d), some (.str wd), some (.int z), some (.int nm.length), some (.ref p), some (.int kc), some (.int lc), some (.ref q), v12, v13, v14, v15, none] ∧ BoxAt G' a (n + 6 - t) ∧ Upto [a] G7 G', ⟨none, none, none, none, rfl, hB8, U8⟩, fun _ _ _ _ _ => trivial, fun t x ρ' G' hx ⟨v12, v13, v14, v15, e1, hBt, U⟩ => ?_, fun ρ' G' ⟨v12, v13, v14, v15, e1, hBt, U⟩ => ?_⟩
  · obtain ⟨ht, rfl⟩ := rng0_item hx
    have ht : t < 3 := ht
    subst e1
    refine g_name (i := 12) sc_cr.nd ?_
    refine s_cons (s_set (i := 13) sc_cr.nd (q_ix (q_lstV (a_cons (q_int (a_cons (q_sub (qv 7 rfl (q_int (subI (a_cons (q_cal CTk hr1 (a_cons (qv 0 rfl (a_cons (qv 7 rfl (a_nil ⟨a, n + 5 - t, nm.length, rfl, hBt.less (by omega), by omega, by omega, fun z9 G9 s0 s1 off9 hB9 => ?_⟩)))))))))))))))))
    refine a_nil (qv 12 rfl ?_)
    obtain ⟨i, hi, hat⟩ : ∃ i : Nat, i < nm.length ∧ atI [W.int 0, W.int ((nm.length : Int) - 1), W.int z9] (t : Int) = some (.int (i : Nat)) := by
      rcases (by omega : t = 0 ∨ t = 1 ∨ t = 2) with rfl | rfl | rfl
      · exact ⟨0, by omega, rfl⟩
      · exact ⟨nm.length - 1, by omega, by show some (W.int ((nm.length : Int) - 1)) = _; congr 2; omega⟩
      · exact ⟨z9.toNat, by omega, by show some (W.int z9) = _; congr 2; omega⟩
    refine fIx_ls (xs := [W.int 0, W.int ((nm.length : Int) - 1), W.int z9]) rfl hat ?_
    have U9 : Upto [a] G7 G9 := U.trans (.off off9)
    have I9 := I7.upto U9 da la
    have hp9 := U9.at1 hp7 pa.symm
    have hq9 := U9.at1 hq7 qa.symm
    refine SQ.st [some (.ref a), some (caW d nm wd z rev), some l, some (.lst (tW (tsN nm wd z rev))), some (.ref d), some (.str wd), some (.int z), some (.int nm.length), some (.ref p), some (.int kc), some (.int lc), some (.ref q), some (.int t), some (.int i), v14, v15, none] rfl ?_
    clear hBt U off9
    -- choice
    refine s_cons (s_set (i := 14) sc_cr.nd (q_addV (q_lstV (a_cons (q_tup (a_cons (q_sub (qv 7 rfl (q_int (subI (a_cons (q_sub (q_len B.len (a_cons (qv 3 rfl (a_nil (fLen_ls (xs := tW (tsN nm wd z rev)) rfl (q_int (subI (a_nil (a_nil ?_)))))))))))))))))))))
    refine q_v (q_lc sc_cr.nd (blkOk_by (N := nCr) (sc := defScope sCr) (own := [("j", 16)]) (by decide +kernel)) (i_range3 rfl B.range (q_sub (qv 7 rfl (q_int (subI (q_sub (qv 13 rfl (q_int (subI (q_negC ?_)))))))))))
    refine ⟨_, RgC.neg (by omega) (by omega) (by omega) (by omega), ?_⟩
    rw [show ((nm.length : Int) - 2 - ((i : Nat) - 1)).toNat = nm.length - 1 - i by omega, rng_down hi]
    refine lk_mapZ (zs := (List.range (nm.length - 1 - i)).map fun u => nm.length - 2 - u) (fun (j : Nat) => W.int (j : Nat)) (fun j => W.tup [.int (j : Nat), .int (atN nm.length rev j : Nat)]) sc_cr.nd (by rw [List.length_map, List.length_range]; omega) (fun _ _ _ => trivial) (fun j hj D ws hD s0 H0 C0 cl fp => ?_) (fun D hD => frz_new hD ?_)
    · obtain ⟨u, hu, rfl⟩ := List.mem_map.mp hj
      have hu := List.mem_range.mp hu
      refine q_tup (a_cons (qv 16 rfl (a_cons (q_dget (u64 hr) (qv 4 rfl (qv 16 rfl ⟨kws, _, .int (atN nm.length rev (nm.length - 2 - u) : Nat), .inl (aup_new hD I9.hD), keyW_nat _, ?_, a_nil ⟨rfl, rfl⟩⟩))))))
      rw [I9.di.get]
      unfold atI'
      rw [if_pos (by omega)]
    refine ⟨_, _, rfl, rfl, by rw [List.length_map, List.length_map, List.length_range]; show 1 + _ ≤ _; omega, ?_⟩
    have ec : [W.tup [.int ((nm.length : Int) - 1), .int (((tW (tsN nm wd z rev)).length : Int) - 1)]] ++ (((List.range (nm.length - 1 - i)).map fun u => nm.length - 2 - u).map fun j => W.tup [.int (j : Nat), .int (atN nm.length rev j : Nat)]) = choN nm.length rev i := by
      unfold choN
      rw [tW_length, tl, List.map_map, show ((nm.length - 1 : Nat) : Int) = (nm.length : Int) - 1 by omega, show ((2 * nm.length - 1 : Nat) : Int) = ((2 * nm.length : Nat) : Int) - 1 by omega]; rfl
    refine SQ.st [some (.ref a), some (caW d nm wd z rev), some l, some (.lst (tW (tsN nm wd z rev))), some (.ref d), some (.str wd), some (.int z), some (.int nm.length), some (.ref p), some (.int kc), some (.int lc), some (.ref q), some (.int t), some (.int i), some (.lst (choN nm.length rev i)), v15, none] (by rw [← ec]; rfl) ?_
    -- cheapest
    refine s_cons (s_if (b_not (b_val (q_cal CS (hr.mono (by decide)) (a_cons (q_cal CCh (hr.mono (by decide)) (a_cons (qv 3 rfl (a_cons (qv 2 rfl (a_cons (qv 8 rfl (a_cons (qv 13 rfl (a_nil ⟨_, l, .ref p, tsN nm wd z rev, lsN nm.length rev, ckws, i, rfl, rfl, I9.hL, .inl hp9, C.ok, O, by omega, fun Bf pp ord ch => ?_⟩)))))))))))))))
    have lfi : Lf (lsN nm.length rev) i = i := by rw [lsN_at (by omega), ldN_name hi]
    obtain ⟨b9, hb9⟩ := ch.best
    have hv9 := best_dueI R CsN' hb9 hi
    have pk9 : ∀ i, i < nm.length → pp i = some (pkN nm.length rev i) := fun i hi => pick_row R CsN' hb9 ch.pick hi
    have od9 := ch.ord
    rw [lfi] at od9
    have eo := ord_row hi (fun l hl => nx_row R pk9 hl) od9
    subst eo
    rw [lfi, hv9, cho_eq pk9 hi]
    refine a_cons (q_tup (a_cons (q_ix (qv 11 rfl (qv 13 rfl (fIx_ls (xs := (List.range nm.length).map fun j => W.int ((nm.length - 1 - j) * kc + lc : Nat)) (by exact hq9) (atI_nat (by rw [List.getElem?_map, List.getElem?_range hi]; rfl)) (a_cons (qv 14 rfl (a_nil (a_nil ⟨_, _, rfl, same_tup2 (same_int _ _ _) (same_ls (xs := choN nm.length rev i) rfl rfl (by rw [cho_len hi]; omega) fun x hx => ?_), ifB_F rfl (s_nil ?_)⟩))))))))))
    · unfold choN at hx
      rcases List.mem_cons.mp hx with rfl | hx
      · exact same_tup2 (same_int _ _ _) (same_int _ _ _)
      · obtain ⟨u, _, rfl⟩ := List.mem_map.mp hx
        exact same_tup2 (same_int _ _ _) (same_int _ _ _)
    -- deep
    refine s_cons (s_set (i := 15) sc_cr.nd (q_sub (qv 7 rfl (qv 13 rfl (subI ?_)))))
    refine SQ.st [some (.ref a), some (caW d nm wd z rev), some l, some (.lst (tW (tsN nm wd z rev))), some (.ref d), some (.str wd), some (.int z), some (.int nm.length), some (.ref p), some (.int kc), some (.int lc), some (.ref q), some (.int t), some (.int i), some (.lst (choN nm.length rev i)), some (.int (nm.length - i : Nat)), none] (by rw [show ((nm.length - i : Nat) : Int) = (nm.length : Int) - i by omega]; rfl) ?_
    have OI : OIn G9 (.lst (tW (tsN nm wd z rev))) l (.lst (choN nm.length rev i)) (tsN nm wd z rev) (lsN nm.length rev) pp (ordD nm.length i) := ⟨rfl, I9.hL, by rw [cho_eq pk9 hi]; rfl, O, od9.top, fun x hx => by
      obtain ⟨u, hu, rfl⟩ := List.mem_map.mp hx
      have := List.mem_range.mp hu
      refine ⟨by omega, _, pk9 _ (by omega), ?_⟩
      unfold pkN
      split
      · omega
      · rename_i c
        have := atN_lt (M := nm.length) (rev := rev) (i := nm.length - 1 - u) (by omega)
        omega⟩
    have lt9 : ∀ x ∈ ordD nm.length i, x < nm.length := fun x hx => by
      obtain ⟨u, hu, rfl⟩ := List.mem_map.mp hx
      omega
    have hS : ∀ x ∈ ordD nm.length i, ((nm.length - x, nm.length - x) : Nat × Nat) = szF (nxF (tsN nm wd z rev) (lsN nm.length rev) pp) (fun x => (nm.length - x, nm.length - x)) x := fun x hx => size_row R pk9 (lt9 x hx)
    have hT : ∀ x ∈ ordD nm.length i, nestT wd z (nm.length - 1 - x) = trF (tsN nm wd z rev) (lsN nm.length rev) pp (fun x => nestT wd z (nm.length - 1 - x)) x := fun x hx => tree_row R pk9 (lt9 x hx)
    by_cases c60 : nm.length - i ≤ 60
    · refine s_cons (s_if (WQ.test (w_and (b_lt (qv 15 rfl (q_int ?_))))))
      refine ifB_T (decide_eq_true (by omega)) (w_and1 (b_neDeep (u150 hr) (q_cal CT.calm hr3 (a_cons (qv 3 rfl (a_cons (qv 2 rfl (a_cons (qv 14 rfl (a_nil ⟨_, l, _, tsN nm wd z rev, lsN nm.length rev, pp, ordD nm.length i, _, _, i, rfl, OI, hS, hT, od9.last, fun bg => ?_, fun _ => ?_⟩))))))))))
      · unfold bigS at bg
        exfalso
        omega
      refine q_cal CTr hr1 (a_cons (qv 5 rfl (a_cons (qv 6 rfl (a_cons (qv 15 rfl (a_nil ⟨wd, z, nm.length - i, rfl, by omega, c60, ?_⟩)))))))
      obtain ⟨ok1, ok2⟩ := nest_ok (z := z) R.wd.1 (nm.length - 1 - i)
      rw [show nm.length - i - 1 = nm.length - 1 - i by omega]
      refine ⟨ok1, ok1, by omega, ?_⟩
      show ifB (!eqW _ _) _ _
      rw [eqW_self]
      refine ifF (s_nil ?_)
      refine s_cons (s_if (WQ.test (w_and (b_gt (qv 15 rfl (q_int ?_))))))
      exact ifB_F (decide_eq_false (by omega)) (ifB_F rfl (s_nil (s_nil ⟨_, _, _, _, rfl, hB9.less (by omega), U9⟩)))
    · refine s_cons (s_if (WQ.test (w_and (b_lt (qv 15 rfl (q_int ?_))))))
      refine ifB_F (decide_eq_false (by omega)) (ifB_F rfl (s_nil ?_))
      refine s_cons (s_if (WQ.test (w_and (b_gt (qv 15 rfl (q_int ?_))))))
      refine ifB_T (decide_eq_true (by omega)) (w_and1 (b_not (b_val (q_cal CB (hr.mono (by decide)) (a_cons (qv 3 rfl (a_cons (qv 2 rfl (a_cons (qv 14 rfl (a_nil ⟨_, l, _, tsN nm wd z rev, lsN nm.length rev, pp, ordD nm.length i, _, _, i, rfl, OI, hS, hT, od9.last, ?_, ifB_F rfl (s_nil (s_nil ⟨_, _, _, _, rfl, hB9.less (by omega), U9⟩))⟩)))))))))))
      unfold bigS
      right
      show 60 < nm.length - i
      omega
  · subst e1
    rw [rngW_length] at hBt
    exact s_cons (s_ret (q_bl ⟨G', Sub.refl, kk _ (up7.trans U) (hBt.less (by show n ≤ n + 6 - 3; omega))⟩))
end
end SW
namespace SW
open PySem PySem.Spec L2 AL
theorem fEq_lsv {G : AH} {K : W → AH → Prop} {a : Addr} {ns ms : List Nat} {neg : Bool} (ha : G a = some (.lst (nW ns))) (k : K (.bl (if neg then !decide (ns = ms) else decide (ns = ms))) G) : fEqB neg (.ref a) (.lst (nW ms)) G K := by
  have e : ∀ l : List Nat, nW l = (l.map Int.ofNat).map W.int := fun l => by unfold nW; rw [List.map_map]; rfl
  have inj : decide (ns.map Int.ofNat = ms.map Int.ofNat) = decide (ns = ms) := by
    by_cases c : ns = ms
    · rw [c]; simp
    · rw [decide_eq_false c, decide_eq_false]
      intro z
      exact c ((List.map_inj_right fun x y h => Int.ofNat.inj h).mp z)
  rw [e] at ha
  rw [e]
  exact ⟨.list ((ns.map Int.ofNat).map PyData.int), .list ((ms.map Int.ofNat).map PyData.int), .lst ha (DWs.ints _), .lsv (DWs.ints _), shaped_ints _, shaped_ints _, by
    show K (.bl (if neg = true then !PyData.eqvAll ((ns.map Int.ofNat).map PyData.int) ((ms.map Int.ofNat).map PyData.int) else PyData.eqvAll ((ns.map Int.ofNat).map PyData.int) ((ms.map Int.ofNat).map PyData.int))) G
    rw [eqv_ints, inj]; exact k⟩
theorem sw3 (k : Key) : lk (mgW [] [((.inl 1 : Key), W.int 4), (.inl 2, .int 2), (.inl 4, .int 1)]) k = if k = .inl 4 then some (.int 1) else if k = .inl 2 then some (.int 2) else if k = .inl 1 then some (.int 4) else none := by
  show lk (pk (pk (pk [] (.inl 1) (.int 4)) (.inl 2) (.int 2)) (.inl 4) (.int 1)) k = _
  rw [lk_pk, lk_pk, lk_pk]; rfl
theorem sw3_at {b : Nat} (h : isS b) : lk (mgW [] [((.inl 1 : Key), W.int 4), (.inl 2, .int 2), (.inl 4, .int 1)]) (.inl (b : Nat)) = some (.int (swp b : Nat)) := by
  rw [sw3]
  rcases h with rfl | rfl | rfl <;> rfl
theorem rep_flat (M v : Nat) : (List.replicate M [W.int (v : Nat)]).flatten = nW (List.replicate M v) := by
  unfold nW
  induction M with
  | zero => rfl
  | succ M ih => rw [List.replicate_succ, List.replicate_succ, List.flatten_cons, List.map_cons, ih]; rfl
/-- what is due, from the last down -/
def dueS (wd : Str) (z : Int) (M t : Nat) : List Nat := (List.range M).map fun j => if M - t ≤ j then sgD wd z M j else 7
theorem dueS_len (wd : Str) (z : Int) (M t : Nat) : (dueS wd z M t).length = M := by unfold dueS; rw [List.length_map, List.length_range]
theorem dueS_0 (wd : Str) (z : Int) (M : Nat) : dueS wd z M 0 = List.replicate M 7 := by
  unfold dueS
  refine List.ext_getElem (by simp) fun i h1 h2 => ?_
  have : i < M := by simpa using h1
  rw [List.getElem_map, List.getElem_range, List.getElem_replicate, if_neg (by omega)]
theorem dueS_succ (wd : Str) (z : Int) {M t : Nat} (h : t < M) : (dueS wd z M t).set (M - 1 - t) (sgD wd z M (M - 1 - t)) = dueS wd z M (t + 1) := by
  unfold dueS
  refine List.ext_getElem (by simp) fun i h1 h2 => ?_
  have hi : i < M := by simpa using h2
  rw [List.getElem_set, List.getElem_map, List.getElem_map, List.getElem_range]
  by_cases c : M - 1 - t = i
  · rw [if_pos c, if_pos (by omega), c]
  · rw [if_neg c]
    by_cases c2 : M - t ≤ i
    · rw [if_pos c2, if_pos (by omega)]
    · rw [if_neg c2, if_neg (by omega)]
theorem dueS_all {wd : Str} {z : Int} {M i : Nat} (h : i < M) : (dueS wd z M M).getD i 0 = sgD wd z M i := by
  unfold dueS
  rw [List.getD_eq_getElem?_getD, List.getElem?_map, List.getElem?_range h]
  show (if M - M ≤ i then _ else _) = _
  rw [if_pos (by omega)]
theorem swps_at {wd : Str} {z : Int} {M t : Nat} (h : t < M) : (if (M - 1 - t = M - 1 ∨ wd = "neg") then swps (sgn z) t else 7) = sgD wd z M (M - 1 - t) := by
  unfold sgD
  rw [show M - 1 - (M - 1 - t) = t by omega]
theorem known_due {M : Nat} {rev : Bool} {wd : Str} {z : Int} {kn : List Nat} (h2 : 2 ≤ M) (hl : kn.length = 2 * M) (h : ∀ k, k < 2 * M → kn.getD k 0 = sgD wd z M (ldN M rev k)) : kn = (lsN M rev).map fun l => (dueS wd z M M).getD l 0 := by
  unfold lsN
  rw [List.map_map]
  refine List.ext_getElem (by simp [hl]) fun i h1 h2' => ?_
  have hi : i < 2 * M := by omega
  rw [List.getElem_map, List.getElem_range]
  have := h i hi
  rw [List.getD_eq_getElem?_getD, List.getElem?_eq_getElem h1] at this
  show kn[i] = (dueS wd z M M).getD (ldN M rev i) 0
  rw [dueS_all (ldN_lt h2 hi).1]
  exact this
end SW
namespace SW
open PySem PySem.Spec L2 AL
theorem en_nW (kn : List Nat) : enW (nW kn) = (List.range kn.length).map fun p => W.tup [.int (p : Nat), .int (kn.getD p 0 : Nat)] := by
  refine List.ext_getElem? fun i => ?_
  by_cases hi : i < kn.length
  · rw [List.getElem?_map, List.getElem?_range hi]
    exact enW_get (nW_getD hi)
  · rw [List.getElem?_eq_none (by rw [enW_length, nW_length]; omega), List.getElem?_eq_none (by rw [List.length_map, List.length_range]; omega)]
theorem sub_upN {F G G' : AH} {a : Addr} (S : Sub F G) (U : Upto [a] G G') (n : F a = none) : Sub F G' := fun q o h => U q o (fun z => by rw [List.mem_singleton] at z; subst z; rw [n] at h; cases h) (S q o h)
section
variable {P : Program} {w : World} {K : PySem.W.Frag} {mg : Str → Option Value} {base : Heap}
/-! ### _law_signs_right of k85 -/
abbrev sSr : Stmt := top 50
abbrev nSr : List Str := ["case", "leads", "terms", "at", "word", "number", "many", "bit", "due", "i", "kind", "known", "steps", "now", "k", "fact", "lead", "place", "old"]
theorem sc_sr : FnScope nSr ["case", "leads"] (defScope sSr) := ⟨rfl, rfl, rfl, by decide +kernel, rfl, by decide +kernel, by decide +kernel⟩
def spSr : ASp := fun ws G K _ => ∃ (d : Addr) (l : W) (kws : List (Key × W)) (nm : List Str) (wd : Str) (z : Int) (rev : Bool), ws = [caW d nm wd z rev, l] ∧ CaI G d l kws nm wd z rev ∧ K (.bl true) G
theorem CaI.sub {G G' : AH} {d : Addr} {l : W} {kws : List (Key × W)} {nm : List Str} {wd : Str} {z : Int} {rev : Bool} (h : CaI G d l kws nm wd z rev) (S : Sub G G') : CaI G' d l kws nm wd z rev := ⟨S _ _ h.hD, h.di, h.len, h.R, h.hL.sub S⟩
theorem tsN_one {nm : List Str} {wd : Str} {z : Int} {rev : Bool} (R : RowN nm wd z) : OneT (tsN nm wd z rev) := fun t ht => by
  obtain ⟨i, hi⟩ := List.mem_iff_getElem?.mp ht
  have hl := (List.getElem?_eq_some_iff.mp hi).1
  rw [tsN_len R] at hl
  have et := tmAt_of hi
  rcases tsN_what (rev := rev) R hl with ⟨_, x, _, e⟩ | ⟨_, e⟩ | ⟨p, _, _, e⟩
  · rw [← et, e]; show 0 ≠ 2; decide
  · rw [← et, e]; show 0 ≠ 2; decide
  · rw [← et, e]; show 1 ≠ 2; decide
theorem ok_sr {CS CN : Addr} {f : Addr} {fd : FuncData} (F : Fun K "_law_signs_right" "_law_signs_right" sSr f fd) (B : Bl mg) (CSm : Cal P w K mg base "_law_same" 4 ["found", "due"] (spSame 3))
    (MS : Mkr P w K mg base "Signs" CS 1 ["self", "terms", "leads"] (spKi CS)) (MT : Mtd P w K mg base CS "top" 1 ["self"] (fun ws G K KE => ∃ fs, spTop CS fs 7 ws G K KE)) (CL : Cal P w K mg base "learned" 3 ["kind"] (spLe CS CN)) : FnOk P w K mg base CX0 5 f fd ["case", "leads"] (low ⟨P, w, K⟩ spSr) := by
  refine fnA_of F sc_sr (fun ws G Kc KE ⟨_, _, _, _, _, _, _, e, _⟩ => by rw [e]; rfl) fun cdv A outer s H E ws G Kc KE hr ⟨d, l, kws, nm, wd, z, rev, e, I, kk⟩ => ?_
  subst e
  have hr1 : Room 1 (A.deeper (PyProof.Rows.envOfC "_law_signs_right" (defScope sSr) s.heap.objs.size f cdv)) := hr.mono (by decide)
  have hr2 : Room 2 (A.deeper (PyProof.Rows.envOfC "_law_signs_right" (defScope sSr) s.heap.objs.size f cdv)) := hr.mono (by decide)
  have hr3 : Room 3 (A.deeper (PyProof.Rows.envOfC "_law_signs_right" (defScope sSr) s.heap.objs.size f cdv)) := hr.mono (by decide)
  have szl : sizeLine = 16777216 := rfl
  have R := I.R
  have two := R.two
  have few := R.few
  have tl := tsN_len (rev := rev) R
  have O := lsN_ok (rev := rev) R
  have ll : (lsN nm.length rev).length = 2 * nm.length := by unfold lsN; rw [List.length_map, List.length_range]
  unfold caW
  refine s_cons (s_asg (qv 0 rfl (g_tup rfl (gs_cons (g_name (i := 2) sc_sr.nd (gs_cons (g_name (i := 3) sc_sr.nd (gs_cons (g_name (i := 4) sc_sr.nd (gs_cons (g_name (i := 5) sc_sr.nd (gs_nil ?_))))))))))))
  refine s_cons (s_cut (P := fun ρ2 G2 => G2 = G ∧ ρ2 = [some (caW d nm wd z rev), some l, some (.lst (tW (tsN nm wd z rev))), some (.ref d), some (.str wd), some (.int z), some (.int nm.length), some (.int (sgn z : Nat)), none, none, none, none, none, none, none, none, none, none, none]) ?_ ?_)
  · refine s_par (i := 6) (j := 7) sc_sr.nd (q_add (q_lenD B.len (a_cons (qv 3 rfl (a_nil ⟨_, kws, rfl, .inl I.hD, q_int (addI ?_)⟩)))))
    have em : (kws.length : Int) + 1 = nm.length := by have := I.len; omega
    rw [em]
    refine q_if (b_eq (u64 hr) (qv 5 rfl (q_int ?_)))
    refine ifB_dec (fun h => q_int ⟨rfl, ?_⟩) (fun h => ?_)
    · have : sgn z = 2 := by unfold sgn; rw [if_neg (by omega), if_pos h]
      rw [this]; rfl
    · refine q_ix (q_lstV (a_cons (q_int (a_cons (q_int (a_nil (q_int1 B.int (a_cons (q_gt (qv 5 rfl (q_int (a_nil ?_))))))))))))
      refine fInt_bl ?_
      have hat : atI [W.int 1, W.int 4] (if decide (z > 0) = true then 1 else 0) = some (.int (sgn z : Nat)) := by
        unfold sgn
        by_cases c : z < 0
        · rw [if_pos c, if_neg (by simp; omega)]; rfl
        · rw [if_neg c, if_neg h, if_pos (by simp; omega)]; rfl
      exact fIx_ls (xs := [W.int 1, W.int 4]) rfl hat ⟨rfl, rfl⟩
  rintro ρ2 G2 ⟨rfl, rfl⟩
  -- due
  refine s_cons (s_set (i := 8) sc_sr.nd (q_mul (q_lst (a_cons (q_int (a_nil fun p0 hp0 => qv 6 rfl ⟨_, aup_same, by omega, by omega, by show 1 * _ ≤ _; omega, fun p hp => ?_⟩))))))
  rw [show ((nm.length : Int)).toNat = nm.length by omega, show [W.int 7] = [W.int (7 : Nat)] from rfl, rep_flat, ← dueS_0 wd z]
  obtain ⟨hp', hpp⟩ := aup_free hp
  have S1 : Sub G2 (aup (aup G2 p0 (.lst [W.int (7 : Nat)])) p (.lst (nW (dueS wd z nm.length 0)))) := sub2 hp0 hp'
  have hd1 : (aup (aup G2 p0 (.lst [W.int (7 : Nat)])) p (.lst (nW (dueS wd z nm.length 0)))) p = some (.lst (nW (dueS wd z nm.length 0))) := aup_same
  generalize aup (aup G2 p0 (.lst [W.int (7 : Nat)])) p (.lst (nW (dueS wd z nm.length 0))) = G3 at S1 hd1 ⊢
  refine s_cons (s_for PassesOwn.never rfl (i_range3 rfl B.range (q_sub (qv 6 rfl (q_int (subI (q_negC (q_negC ?_))))))))
  refine ⟨_, RgC.neg (by omega) (by omega) (by omega) (by omega), ?_⟩
  rw [show ((nm.length : Int) - 1 - -1).toNat = nm.length by omega]
  refine ⟨fun t ρ' G' => ∃ v9, ρ' = [some (caW d nm wd z rev), some l, some (.lst (tW (tsN nm wd z rev))), some (.ref d), some (.str wd), some (.int z), some (.int nm.length), some (.int (swps (sgn z) t : Nat)), some (.ref p), v9, none, none, none, none, none, none, none, none, none] ∧ G' p = some (.lst (nW (dueS wd z nm.length t))) ∧ Upto [p] G3 G', ⟨none, rfl, hd1, Upto.refl⟩, fun _ _ _ _ _ => trivial, fun t x ρ' G' hx ⟨v9, e1, hd, U⟩ => ?_, fun ρ' G' ⟨v9, e1, hd, U⟩ => ?_⟩
  · obtain ⟨ht, rfl⟩ := rng_item hx
    subst e1
    refine g_name (i := 9) sc_sr.nd ?_
    refine SQ.st [some (caW d nm wd z rev), some l, some (.lst (tW (tsN nm wd z rev))), some (.ref d), some (.str wd), some (.int z), some (.int nm.length), some (.int (swps (sgn z) t : Nat)), some (.ref p), some (.int (nm.length - 1 - t : Nat)), none, none, none, none, none, none, none, none, none] (by rw [show ((nm.length - 1 - t : Nat) : Int) = (nm.length : Int) - 1 + (t : Nat) * -1 by omega]; rfl) ?_
    have is := swps_is (sgn_is z) t
    refine s_cons (s_cut (P := fun ρ2 G2 => ρ2 = [some (caW d nm wd z rev), some l, some (.lst (tW (tsN nm wd z rev))), some (.ref d), some (.str wd), some (.int z), some (.int nm.length), some (.int (swps (sgn z) t : Nat)), some (.ref p), some (.int (nm.length - 1 - t : Nat)), none, none, none, none, none, none, none, none, none] ∧ G2 = aup G' p (.lst (nW (dueS wd z nm.length (t + 1))))) ?_ ?_)
    · have sv : ∀ v : Nat, v = sgD wd z nm.length (nm.length - 1 - t) → aup G' p (.lst ((nW (dueS wd z nm.length t)).set (nm.length - 1 - t) (.int (v : Nat)))) = aup G' p (.lst (nW (dueS wd z nm.length (t + 1)))) := fun v hv => by
        subst hv
        rw [nW_set, dueS_succ wd z ht]
      have ix : ixN (nW (dueS wd z nm.length t)).length ((nm.length - 1 - t : Nat) : Int) = some (nm.length - 1 - t) := by rw [nW_length, dueS_len]; exact ixN_nat (by omega)
      have sa := swps_at (wd := wd) (z := z) ht
      refine s_asg (q_if (WQ.test (w_or (b_eq (u64 hr) (qv 9 rfl (q_sub (qv 6 rfl (q_int (subI ?_)))))))))
      refine ifB_dec (fun h => ifT (qv 7 rfl (g_ix (qv 8 rfl (qv 9 rfl ⟨_, _, hd, ix, rfl, sv _ ?_⟩))))) (fun h => ?_)
      · rw [← sa, if_pos (.inl (by omega))]
      refine w_or1 (b_eq (u64 hr) (qv 4 rfl (q_str ?_)))
      refine ifB_dec (fun h2 => qv 7 rfl (g_ix (qv 8 rfl (qv 9 rfl ⟨_, _, hd, ix, rfl, sv _ ?_⟩)))) (fun h2 => q_int (g_ix (qv 8 rfl (qv 9 rfl ⟨_, _, hd, ix, rfl, sv 7 ?_⟩))))
      · rw [← sa, if_pos (.inr h2)]
      · rw [← sa, if_neg]
        rintro (h3 | h3)
        · omega
        · exact h2 h3
    rintro ρ2 G4 ⟨rfl, rfl⟩
    refine s_cons (s_set (i := 7) sc_sr.nd (q_dget (u64 hr) (q_disp3 fun r hr0 => ?_)))
    have rp : p ≠ r := ane_none aup_same hr0
    refine q_int (q_int (q_int (q_int (q_int (q_int ⟨[(.inl 1, .int 4), (.inl 2, .int 2), (.inl 4, .int 1)], rfl, by show 3 ≤ 15; decide, aup_same, qv 7 rfl ⟨_, _, _, .inl aup_same, keyW_nat _, sw3_at is, ?_⟩⟩)))))
    refine s_nil ⟨_, rfl, ?_, ?_⟩
    · rw [aup_ne rp, aup_ne rp]; exact aup_same
    · rw [aup_aup]
      exact (U.put (by simp)).new hr0
  subst e1
  rw [rngW_length] at hd
  have S4 : Sub G2 G' := sub_upN S1 U hp'
  have I4 := I.sub S4
  clear U hd1 S1
  -- kind
  refine s_cons (s_set (i := 10) sc_sr.nd (q_make MS hr2 (a_cons (qv 2 rfl (a_cons (qv 1 rfl (a_nil fun kA dx hkA => ⟨kA, dx, _, l, tsN nm wd z rev, lsN nm.length rev, rfl, aup_same, rfl, I4.hL.new hkA, rfl, ?_⟩)))))))
  rw [aup_aup]
  have hd5 : (aup G' kA (.ins CS dx (fsK (tsN nm wd z rev) (lsN nm.length rev)))) p = some (.lst (nW (dueS wd z nm.length nm.length))) := aup_new hkA hd
  have hk5 : (aup G' kA (.ins CS dx (fsK (tsN nm wd z rev) (lsN nm.length rev)))) kA = some (.ins CS dx (fsK (tsN nm wd z rev) (lsN nm.length rev))) := aup_same
  have S5 : Sub G2 (aup G' kA (.ins CS dx (fsK (tsN nm wd z rev) (lsN nm.length rev)))) := S4.trans (Sub.new hkA)
  generalize aup G' kA (.ins CS dx (fsK (tsN nm wd z rev) (lsN nm.length rev))) = G5 at hd5 hk5 S5 ⊢
  have I5 := I.sub S5
  clear I4 hd hkA S4
  refine s_cons (s_asg (q_cal CL hr3 (a_cons (qv 10 rfl (a_nil ⟨kA, dx, tsN nm wd z rev, lsN nm.length rev, rfl, O, tsN_one R, by omega, .inl ⟨hk5, fun st kn L hl => g_tup rfl (gs_cons (g_name (i := 11) sc_sr.nd (gs_cons (g_name (i := 12) sc_sr.nd (gs_nil ?_)))))⟩⟩)))))
  rw [tl] at hl
  have ek := known_due (wd := wd) (z := z) two hl (sg_row R L)
  refine SQ.st [some (caW d nm wd z rev), some l, some (.lst (tW (tsN nm wd z rev))), some (.ref d), some (.str wd), some (.int z), some (.int nm.length), some (.int (swps (sgn z) nm.length : Nat)), some (.ref p), v9, some (.ref kA), some (.lst (nW kn)), some (.lst (stW st)), none, none, none, none, none, none] (by rw [rngW_length]; rfl) ?_
  -- what is known
  refine s_cons (s_if (WQ.test (w_or (b_not (b_val (q_cal CSm (hr.mono (by decide)) (a_cons (qv 11 rfl (a_cons (q_lc sc_sr.nd (blkOk_by (N := nSr) (sc := defScope sSr) (own := [("lead", 16)]) (by decide +kernel)) (i_list (qv 1 rfl ⟨_, I5.hL, ?_⟩))))))))))))
  have fno := fsK_no (tsN nm wd z rev) (lsN nm.length rev) (m := "top") (by decide +kernel) (by decide +kernel)
  refine lk_mapZ (zs := lsN nm.length rev) (fun (k : Nat) => W.int (k : Nat)) (fun k => W.int ((dueS wd z nm.length nm.length).getD k 0 : Nat)) sc_sr.nd (by omega) (fun D ws hD => I5.hL.new hD) (fun k hk D ws hD s0 H0 C0 cl fp => ?_) (fun D hD => a_nil ⟨_, _, rfl, SameW.up (SameW.up (same_ls (d := 0) (xs := nW kn) rfl ?_ (by rw [nW_length]; omega) fun x hx => ?_)), ?_⟩)
  · have hkl : k < nm.length := by
      unfold lsN at hk
      obtain ⟨j, hj, rfl⟩ := List.mem_map.mp hk
      exact (ldN_lt two (List.mem_range.mp hj)).1
    exact q_ix (qv 8 rfl (qv 16 rfl (fIx_ls (xs := nW (dueS wd z nm.length nm.length)) (by exact aup_new hD hd5) (nW_at (by rw [dueS_len]; exact hkl)) ⟨rfl, rfl⟩)))
  · rw [ek]
    show LsA _ (.ref D) _
    unfold nW
    rw [List.map_map]
    exact aup_same
  · unfold nW at hx
    obtain ⟨j, _, rfl⟩ := List.mem_map.mp hx
    exact same_int _ _ _
  refine ifB_F rfl (w_or1 (b_ne (u64 hr) (q_meth0 MT hr1 (qv 10 rfl ⟨kA, dx, _, rfl, aup_new hD hk5, fno, _, kA, dx, rfl, aup_new hD hk5, q_int ?_⟩))))
  refine ifB_F rfl (s_nil ?_)
  have I6 := I5.sub (Sub.new (o := .lst ((lsN nm.length rev).map fun k => W.int ((dueS wd z nm.length nm.length).getD k 0 : Nat))) hD)
  have S6 := S5.trans (Sub.new (o := .lst ((lsN nm.length rev).map fun k => W.int ((dueS wd z nm.length nm.length).getD k 0 : Nat))) hD)
  generalize aup G5 D (.lst ((lsN nm.length rev).map fun k => W.int ((dueS wd z nm.length nm.length).getD k 0 : Nat))) = G6 at I6 S6 ⊢
  clear hd5 hk5 S5 I5 hD
  -- now
  refine s_cons (s_set (i := 13) sc_sr.nd (q_mul (q_lst (a_cons (q_int (a_nil fun p1 hp1 => q_len B.len (a_cons (qv 2 rfl (a_nil (fLen_ls (xs := tW (tsN nm wd z rev)) rfl ?_))))))))))
  refine ⟨_, aup_same, by rw [tW_length]; omega, by rw [tW_length]; omega, by rw [tW_length]; show 1 * _ ≤ _; omega, fun q hq => ?_⟩
  rw [tW_length, show (((tsN nm wd z rev).length : Int)).toNat = (tsN nm wd z rev).length by omega, show [W.int 7] = [W.int (7 : Nat)] from rfl, rep_flat]
  obtain ⟨hq', hqp⟩ := aup_free hq
  have S7 : Sub G6 (aup (aup G6 p1 (.lst [W.int (7 : Nat)])) q (.lst (nW (List.replicate (tsN nm wd z rev).length 7)))) := sub2 hp1 hq'
  have hq7 : (aup (aup G6 p1 (.lst [W.int (7 : Nat)])) q (.lst (nW (List.replicate (tsN nm wd z rev).length 7)))) q = some (.lst (nW (List.replicate (tsN nm wd z rev).length 7))) := aup_same
  generalize aup (aup G6 p1 (.lst [W.int (7 : Nat)])) q (.lst (nW (List.replicate (tsN nm wd z rev).length 7))) = G7 at S7 hq7 ⊢
  obtain ⟨sq, sq0, sqn, sql, sqs⟩ := LnP.seq (LnG.first (tsN nm wd z rev) (lsN nm.length rev) (b := 3) (by decide : 7 < 2 ^ 3)) L.way
  have I7 := I6.sub S7
  refine s_cons (s_for PassesOwn.never rfl (i_list (qv 12 rfl ⟨stW st, rfl, ?_⟩)))
  refine ⟨fun t ρ' G' => ∃ q v14 v15, ρ' = [some (caW d nm wd z rev), some l, some (.lst (tW (tsN nm wd z rev))), some (.ref d), some (.str wd), some (.int z), some (.int nm.length), some (.int (swps (sgn z) nm.length : Nat)), some (.ref p), v9, some (.ref kA), some (.lst (nW kn)), some (.lst (stW st)), some (.ref q), v14, v15, none, none, none] ∧ G' q = some (.lst (nW (sq t))) ∧ Sub G7 G', ⟨q, none, none, rfl, by rw [sq0]; exact hq7, Sub.refl⟩, fun _ _ _ _ _ => rfl, fun t x ρ' G' hx ⟨q, v14, v15, e1, hq, S⟩ => ?_, fun ρ' G' ⟨q, v14, v15, e1, hq, S⟩ => ?_⟩
  · unfold stW at hx
    rw [List.getElem?_map] at hx
    obtain ⟨⟨k, fc⟩, hst, rfl⟩ := Option.map_eq_some_iff.mp hx
    have htl := (List.getElem?_eq_some_iff.mp hst).1
    obtain ⟨a1, a2, a3, a4⟩ := sqs t k fc hst
    have sl := sql t (by omega)
    rw [tl] at a1 sl
    subst e1
    have I8 := I7.sub S
    refine g_tup rfl (gs_cons (g_name (i := 14) sc_sr.nd (gs_cons (g_name (i := 15) sc_sr.nd (gs_nil ?_)))))
    refine SQ.st [some (caW d nm wd z rev), some l, some (.lst (tW (tsN nm wd z rev))), some (.ref d), some (.str wd), some (.int z), some (.int nm.length), some (.int (swps (sgn z) nm.length : Nat)), some (.ref p), v9, some (.ref kA), some (.lst (nW kn)), some (.lst (stW st)), some (.ref q), some (.int (k : Nat)), some (.int (fc : Nat)), none, none, none] rfl ?_
    refine s_cons (s_if (WQ.test (w_or (b_ne (u64 hr) (q_band (qv 15 rfl (q_ix (qv 13 rfl (qv 14 rfl (fIx_ls (xs := nW (sq t)) hq (nW_at (by omega)) ⟨fc, (sq t).getD k 0, rfl, rfl, qv 15 rfl ?_⟩))))))))))
    refine ifB_ndec (fun h => absurd (congrArg (fun x : Nat => (x : Int)) a2) h) (fun _ => w_or1 (b_eq (u64 hr) (qv 15 rfl (q_ix (qv 13 rfl (qv 14 rfl (fIx_ls (xs := nW (sq t)) hq (nW_at (by omega)) ?_)))))))
    refine ifB_dec (fun h => absurd (by omega) a3) (fun _ => s_nil ?_)
    refine s_cons (s_setLc (i := 13) sc_sr.nd (blkOk_by (N := nSr) (sc := defScope sSr) (own := [("place", 17), ("old", 18)]) (by decide +kernel)) (i_enum rfl B.enumerate (qv 13 rfl ⟨nW (sq t), hq, ?_⟩)))
    rw [en_nW, sl]
    refine lk_map2 (zs := List.range (2 * nm.length)) (fun p => W.int (p : Nat)) (fun p => W.int ((sq t).getD p 0 : Nat)) (fun p => W.int ((if Lf (lsN nm.length rev) p = Lf (lsN nm.length rev) k then fc else (sq t).getD p 0 : Nat) : Nat)) sc_sr.nd (by rw [List.length_range]; omega) (fun D ws hD => aup_new hD hq) (fun u hu D ws hD s0 H0 C0 cl fp => ?_) (fun D hD => ?_)
    · have hu := List.mem_range.mp hu
      refine q_if (b_eq (u64 hr) (q_ix (qv 1 rfl (qv 17 rfl (fIx_ls (I8.hL.new hD) (nW_at (by omega)) ?_)))))
      refine q_ix (qv 1 rfl (qv 14 rfl (fIx_ls (I8.hL.new hD) (nW_at (by omega)) ?_)))
      refine ifB_dec (fun h => qv 15 rfl ⟨?_, rfl⟩) (fun h => qv 18 rfl ⟨?_, rfl⟩)
      · rw [if_pos (show Lf (lsN nm.length rev) u = Lf (lsN nm.length rev) k by show (lsN nm.length rev).getD u 0 = (lsN nm.length rev).getD k 0; omega)]
      · rw [if_neg (fun c : Lf (lsN nm.length rev) u = Lf (lsN nm.length rev) k => h (by have c : (lsN nm.length rev).getD u 0 = (lsN nm.length rev).getD k 0 := c; rw [c]))]
    refine s_nil ⟨D, _, _, rfl, ?_, S.trans (Sub.new hD)⟩
    rw [aup_same, a4]
    unfold sprM nW
    rw [sl, List.map_map]; rfl
  · subst e1
    rw [show (stW st).length = st.length by unfold stW; rw [List.length_map], sqn] at hq
    refine s_cons (s_ret (q_eq (u64 hr) (qv 13 rfl (qv 11 rfl (fEq_lsv hq ?_)))))
    rw [decide_eq_true (rfl : kn = kn)]
    exact ⟨G2, S6.trans (S7.trans S), kk⟩
end
end SW
namespace SW
open PySem PySem.Spec L2 AL
theorem held_names (nm : List Str) : heldM (nm.map Tm.name) = nm := by
  unfold heldM
  induction nm with
  | nil => rfl
  | cons x xs ih => rw [List.map_cons, List.flatMap_cons, ih]; rfl
theorem held_tsN (nm : List Str) (wd : Str) (z : Int) (rev : Bool) : heldM (tsN nm wd z rev) = nm := by
  have h1 := held_names nm
  unfold tsN
  unfold heldM at h1 ⊢
  rw [List.flatMap_append, List.flatMap_append, h1]
  have : ∀ l : List Nat, ((l.map fun p => Tm.of wd [ordN nm.length rev p]).flatMap nmT) = [] := fun l => by
    induction l with
    | nil => rfl
    | cons x xs ih => rw [List.map_cons, List.flatMap_cons, ih]; rfl
  rw [this]
  show nm ++ [] ++ [] = nm
  rw [List.append_nil, List.append_nil]
theorem nums_tsN {nm : List Str} {wd : Str} {z : Int} {rev : Bool} (R : RowN nm wd z) : numsM (tsN nm wd z rev) (lsN nm.length rev) (Lf (lsN nm.length rev) 0) (tsN nm wd z rev).length = [] := by
  have two := R.two
  unfold numsM
  rw [List.flatMap_eq_nil_iff]
  intro p hp
  have hp := List.mem_range.mp hp
  rw [tsN_len R] at hp
  split
  · rename_i e
    rw [lsN_at hp, lsN_at (by omega), ldN_name (k := 0) (by omega)] at e
    rcases tsN_what (rev := rev) R hp with ⟨_, x, _, e2⟩ | ⟨e1, e2⟩ | ⟨u, _, _, e2⟩
    · rw [e2]; rfl
    · subst e1
      rw [ldN_num two] at e
      omega
    · rw [e2]; rfl
  · rfl
section
variable {P : Program} {w : World} {K : PySem.W.Frag} {mg : Str → Option Value} {base : Heap}
/-! ### _law_names_right of k85 -/
abbrev sNr : Stmt := top 51
abbrev nNr : List Str := ["box", "case", "leads", "terms", "at", "word", "number", "kind", "known", "names", "step", "k", "name", "term"]
theorem sc_nr : FnScope nNr ["box", "case", "leads"] (defScope sNr) := ⟨rfl, rfl, rfl, by decide +kernel, rfl, by decide +kernel, by decide +kernel⟩
def spNr : ASp := fun ws G K _ => ∃ (a d : Addr) (l : W) (kws : List (Key × W)) (nm : List Str) (wd : Str) (z : Int) (rev : Bool) (n : Nat), ws = [.ref a, caW d nm wd z rev, l] ∧ CaI G d l kws nm wd z rev ∧ BoxAt G a (n + 16) ∧ d ≠ a ∧ l ≠ .ref a ∧ ∀ G', Upto [a] G G' → BoxAt G' a n → K (.bl true) G'
theorem ok_nr {CS CN : Addr} {f : Addr} {fd : FuncData} (F : Fun K "_law_names_right" "_law_names_right" sNr f fd) (B : Bl mg) (CTk : Cal P w K mg base "_law_take" 1 ["box", "many"] spTake) (CSm : Cal P w K mg base "_law_same" 4 ["found", "due"] (spSame 3))
    (MN : Mkr P w K mg base "Names" CN 2 ["self", "terms", "leads"] (spNi CN)) (MF : Mtd P w K mg base CN "free" 2 ["self", "known", "k", "name"] (spFre CN)) (CL : Cal P w K mg base "learned" 3 ["kind"] (spLe CS CN)) (CNu : Cal P w K mg base "numbers" 1 ["terms", "leads", "k"] spNum) : FnOk P w K mg base CX0 5 f fd ["box", "case", "leads"] (low ⟨P, w, K⟩ spNr) := by
  refine fnA_of F sc_nr (fun ws G Kc KE ⟨_, _, _, _, _, _, _, _, _, e, _⟩ => by rw [e]; rfl) fun cdv A outer s H E ws G Kc KE hr ⟨a, d, l, kws, nm, wd, z, rev, n, e, I, hB, da, la, kk⟩ => ?_
  subst e
  have hr1 : Room 1 (A.deeper (PyProof.Rows.envOfC "_law_names_right" (defScope sNr) s.heap.objs.size f cdv)) := hr.mono (by decide)
  have hr2 : Room 2 (A.deeper (PyProof.Rows.envOfC "_law_names_right" (defScope sNr) s.heap.objs.size f cdv)) := hr.mono (by decide)
  have hr3 : Room 3 (A.deeper (PyProof.Rows.envOfC "_law_names_right" (defScope sNr) s.heap.objs.size f cdv)) := hr.mono (by decide)
  have szl : sizeLine = 16777216 := rfl
  have R := I.R
  have two := R.two
  have few := R.few
  have tl := tsN_len (rev := rev) R
  have O := lsN_ok (rev := rev) R
  have hh := held_tsN nm wd z rev
  have ll : (lsN nm.length rev).length = 2 * nm.length := by unfold lsN; rw [List.length_map, List.length_range]
  unfold caW
  refine s_cons (s_asg (qv 1 rfl (g_tup rfl (gs_cons (g_name (i := 3) sc_nr.nd (gs_cons (g_name (i := 4) sc_nr.nd (gs_cons (g_name (i := 5) sc_nr.nd (gs_cons (g_name (i := 6) sc_nr.nd (gs_nil ?_))))))))))))
  -- kind
  refine s_cons (s_set (i := 7) sc_nr.nd (q_make MN hr3 (a_cons (qv 3 rfl (a_cons (qv 2 rfl (a_nil fun kA dx hkA => ⟨kA, dx, _, l, tsN nm wd z rev, lsN nm.length rev, rfl, aup_same, rfl, I.hL.new hkA, by omega, rfl, ?_⟩)))))))
  rw [aup_aup, hh]
  have ka : a ≠ kA := Upto.boxN hB hkA
  have hk5 : (aup G kA (.ins CN dx (fsN (tsN nm wd z rev) (lsN nm.length rev) nm))) kA = some (.ins CN dx (fsN (tsN nm wd z rev) (lsN nm.length rev) nm)) := aup_same
  have hB5 := hB.new (o := .ins CN dx (fsN (tsN nm wd z rev) (lsN nm.length rev) nm)) hkA
  have up5 : Upto [a] G (aup G kA (.ins CN dx (fsN (tsN nm wd z rev) (lsN nm.length rev) nm))) := Upto.refl.new hkA
  generalize aup G kA (.ins CN dx (fsN (tsN nm wd z rev) (lsN nm.length rev) nm)) = G5 at hk5 hB5 up5 ⊢
  -- known
  refine s_cons (s_set (i := 8) sc_nr.nd (q_ix (q_cal CL hr3 (a_cons (qv 7 rfl (a_nil ⟨kA, dx, tsN nm wd z rev, lsN nm.length rev, rfl, O, tsN_one R, by omega, .inr ⟨by rw [hh]; exact hk5, fun st kn L hl => q_int (fIx_tup (v := .lst (nW kn)) rfl ?_)⟩⟩))))))
  rw [tl] at hl
  have z0 := nm_row R L
  have ek : kn = List.replicate (2 * nm.length) 0 := by
    refine List.ext_getElem (by rw [List.length_replicate]; exact hl) fun i h1 h2 => ?_
    have := z0 i (by omega)
    rw [List.getD_eq_getElem?_getD, List.getElem?_eq_getElem h1] at this
    rw [List.getElem_replicate]
    exact this
  refine SQ.st [some (.ref a), some (caW d nm wd z rev), some l, some (.lst (tW (tsN nm wd z rev))), some (.ref d), some (.str wd), some (.int z), some (.ref kA), some (.lst (nW kn)), none, none, none, none, none] rfl ?_
  -- what is due
  refine s_cons (s_if (b_not (b_val (q_cal CSm (hr.mono (by decide)) (a_cons (qv 8 rfl (a_cons (q_mul (q_lst (a_cons (q_int (a_nil fun p1 hp1 => q_len B.len (a_cons (qv 3 rfl (a_nil (fLen_ls (xs := tW (tsN nm wd z rev)) rfl ?_))))))))))))))))
  refine ⟨_, aup_same, by rw [tW_length]; omega, by rw [tW_length]; omega, by rw [tW_length]; show 1 * _ ≤ _; omega, fun q hq => ?_⟩
  rw [tW_length, show (((tsN nm wd z rev).length : Int)).toNat = (tsN nm wd z rev).length by omega, show [W.int 0] = [W.int (0 : Nat)] from rfl, rep_flat, tl, ← ek]
  obtain ⟨hq', hqp⟩ := aup_free hq
  refine a_nil ⟨_, _, rfl, SameW.up (SameW.up (same_ls (d := 0) (xs := nW kn) rfl (by exact aup_same) (by rw [nW_length]; omega) fun x hx => ?_)), ?_⟩
  · unfold nW at hx
    obtain ⟨j, _, rfl⟩ := List.mem_map.mp hx
    exact same_int _ _ _
  refine ifB_F rfl (s_nil ?_)
  have up6 : Upto [a] G5 (aup (aup G5 p1 (.lst [W.int (0 : Nat)])) q (.lst (nW kn))) := (Upto.refl.new hp1).new hq
  have hB6 := (hB5.new (o := .lst [W.int (0 : Nat)]) hp1).new (o := .lst (nW kn)) hq
  have hk6 : (aup (aup G5 p1 (.lst [W.int (0 : Nat)])) q (.lst (nW kn))) kA = some (.ins CN dx (fsN (tsN nm wd z rev) (lsN nm.length rev) nm)) := aup_new hq (aup_new hp1 hk5)
  have up6 := up5.trans up6
  generalize aup (aup G5 p1 (.lst [W.int (0 : Nat)])) q (.lst (nW kn)) = G6 at up6 hB6 hk6 ⊢
  clear hB5 hk5 up5 hp1 hq
  -- names
  refine s_cons (s_setLc (i := 9) sc_nr.nd (blkOk_by (N := nNr) (sc := defScope sNr) (own := [("term", 13)]) (by decide +kernel)) (i_list (qv 3 rfl ⟨tW (tsN nm wd z rev), rfl, ⟨fun Dl hDl => ?_⟩⟩)))
  refine ⟨fun i G' => G' = aup G6 Dl (.lst ((heldM ((tsN nm wd z rev).take i)).map W.str)), rfl, fun i G' _ e => rfl, fun i x G' hx e s0 H0 C0 cl fp => ?_, fun G' e => ?_⟩
  · obtain ⟨u, hu, rfl⟩ := tW_item hx
    subst e
    have il := (List.getElem?_eq_some_iff.mp hu).1
    refine n_name (i := 13) sc_nr.nd fun s1 H1 C1 cl1 fp1 => ts_one (b_eq (u64 hr) (q_ix (qv 13 rfl (q_int ?_))))
    have hl := held_len ((tsN nm wd z rev).take i)
    rw [List.length_take] at hl
    cases u with
    | num n =>
      refine fIx_tup (v := .str "num") rfl (q_str (ifB_F (show decide (Str.ofString "num" = Str.ofString "name") = false from decide_eq_false strs_ne.1) ?_))
      show aup _ Dl _ = aup _ Dl (.lst ((heldM ((tsN nm wd z rev).take (i + 1))).map W.str))
      rw [held_take hu]
      show aup _ Dl _ = aup _ Dl (.lst ((heldM ((tsN nm wd z rev).take i) ++ []).map W.str))
      rw [List.append_nil]
    | name z' =>
      refine fIx_tup (v := .str "name") rfl (q_str (ifB_T (show decide (Str.ofString "name" = Str.ofString "name") = true from decide_eq_true rfl) fun s2 H2 C2 cl2 fp2 => ?_))
      refine q_ix (qv 13 rfl (q_int (fIx_tup (v := .str z') rfl ⟨_, aup_same, ?_, ?_⟩)))
      · rw [List.length_map]; omega
      · show aup (aup _ Dl _) Dl _ = aup _ Dl (.lst ((heldM ((tsN nm wd z rev).take (i + 1))).map W.str))
        rw [aup_aup, held_take hu, List.map_append]; rfl
    | of wd' ks =>
      refine fIx_tup (v := .str "of") rfl (q_str (ifB_F (show decide (Str.ofString "of" = Str.ofString "name") = false from decide_eq_false fun z => strs_ne.2.2 z.symm) ?_))
      show aup _ Dl _ = aup _ Dl (.lst ((heldM ((tsN nm wd z rev).take (i + 1))).map W.str))
      rw [held_take hu]
      show aup _ Dl _ = aup _ Dl (.lst ((heldM ((tsN nm wd z rev).take i) ++ []).map W.str))
      rw [List.append_nil]
  subst e
  rw [tW_length, List.take_length, hh]
  have Da : a ≠ Dl := Upto.boxN hB6 hDl
  have hk7 := aup_new (u := .lst (nm.map W.str)) hDl hk6
  have up7 := up6.new (o := .lst (nm.map W.str)) hDl
  have hB7 := hB6.new (o := .lst (nm.map W.str)) hDl
  have hD7 : (aup G6 Dl (.lst (nm.map W.str))) Dl = some (.lst (nm.map W.str)) := aup_same
  generalize aup G6 Dl (.lst (nm.map W.str)) = G7 at hk7 up7 hB7 hD7 ⊢
  have fno := fsN_no (tsN nm wd z rev) (lsN nm.length rev) nm (m := "free") (by decide +kernel) (by decide +kernel) (by decide +kernel)
  -- turns
  refine s_cons (s_for PassesOwn.never rfl (i_range1 rfl B.range (q_int ?_)))
  refine ⟨by omega, by omega, fun t ρ' G' => ∃ v10 v11 v12, ρ' = [some (.ref a), some (caW d nm wd z rev), some l, some (.lst (tW (tsN nm wd z rev))), some (.ref d), some (.str wd), some (.int z), some (.ref kA), some (.lst (nW kn)), some (.ref Dl), v10, v11, v12, none] ∧ BoxAt G' a (n + 16 - 2 * t) ∧ Upto [a] G7 G', ⟨none, none, none, rfl, hB7, Upto.refl⟩, fun _ _ _ _ _ => trivial, fun t x ρ' G' hx ⟨v10, v11, v12, e1, hBt, U⟩ => ?_, fun ρ' G' ⟨v10, v11, v12, e1, hBt, U⟩ => ?_⟩
  · obtain ⟨ht, rfl⟩ := rng0_item hx
    have ht : t < 8 := ht
    subst e1
    refine g_name (i := 10) sc_nr.nd ?_
    refine s_cons (s_par (i := 11) (j := 12) sc_nr.nd (q_cal CTk hr1 (a_cons (qv 0 rfl (a_cons (q_len B.len (a_cons (qv 3 rfl (a_nil (fLen_ls (xs := tW (tsN nm wd z rev)) rfl (a_nil ⟨a, n + 15 - 2 * t, ((tW (tsN nm wd z rev)).length : Nat), rfl, hBt.less (by omega), by rw [tW_length]; omega, by rw [tW_length]; omega, fun z8 G8 s0 s1 off8 hB8 => ?_⟩)))))))))))
    have U8 : Upto [a] G7 G8 := U.trans (.off off8)
    have hD8 := U8.at1 hD7 Da.symm
    refine q_ix (qv 9 rfl (q_cal CTk hr1 (a_cons (qv 0 rfl (a_cons (q_len B.len (a_cons (qv 9 rfl (a_nil (fLen_ls (xs := nm.map W.str) (by exact hD8) (a_nil ⟨a, n + 14 - 2 * t, ((nm.map W.str).length : Nat), rfl, hB8.less (by omega), by rw [List.length_map]; omega, by rw [List.length_map]; omega, fun z9 G9 w0 w1 off9 hB9 => ?_⟩)))))))))))
    rw [tW_length, tl] at s1
    rw [List.length_map] at w1
    obtain ⟨k, rfl, hk⟩ : ∃ k : Nat, z8 = k ∧ k < 2 * nm.length := ⟨z8.toNat, by omega, by omega⟩
    obtain ⟨j, rfl, hj⟩ : ∃ k : Nat, z9 = k ∧ k < nm.length := ⟨z9.toNat, by omega, by omega⟩
    have U9 : Upto [a] G7 G9 := U8.trans (.off off9)
    refine fIx_ls (xs := nm.map W.str) (by exact U9.at1 hD7 Da.symm) (atI_nat (by rw [List.getElem?_map, List.getElem?_eq_getElem hj]; rfl)) ?_
    refine SQ.st [some (.ref a), some (caW d nm wd z rev), some l, some (.lst (tW (tsN nm wd z rev))), some (.ref d), some (.str wd), some (.int z), some (.ref kA), some (.lst (nW kn)), some (.ref Dl), some (.int (t : Nat)), some (.int (k : Nat)), some (.str nm[j]), none] rfl ?_
    have hk9 := U9.at1 hk7 ka.symm
    refine s_cons (s_if (b_isn (q_meth MF hr2 (qv 7 rfl ⟨kA, dx, _, rfl, hk9, fno, a_cons (qv 8 rfl (a_cons (qv 11 rfl (a_cons (qv 12 rfl (a_nil ⟨kA, dx, tsN nm wd z rev, lsN nm.length rev, nm, _, kn, k, nm[j], rfl, hk9, by omega, rfl, by omega, List.getElem_mem hj, fun y hy => (R.sm y hy).1, q_bl ?_⟩))))))⟩))))
    have e0 : (kn.getD k 0 &&& 1 * 2 ^ nm.idxOf nm[j]) = 0 := by rw [z0 k hk]; exact Nat.zero_and _
    rw [e0]
    refine ifB_F rfl (s_nil (s_nil ⟨_, _, _, rfl, hB9.less (by omega), U9⟩))
  · subst e1
    rw [rngW_length] at hBt
    have I9 := (I.upto up7 da la).upto U da la
    refine s_cons (s_ret (q_cal CSm (hr.mono (by decide)) (a_cons (q_cal CNu hr1 (a_cons (qv 3 rfl (a_cons (qv 2 rfl (a_cons (q_int (a_nil ⟨_, l, tsN nm wd z rev, lsN nm.length rev, 0, rfl, rfl, I9.hL, by omega, by omega, by omega, fun p hp => ?_⟩)))))))))))
    rw [nums_tsN R]
    refine a_cons (q_lst (a_nil fun q hq => a_nil ⟨_, _, rfl, SameW.up (SameW.up (same_ls (d := 0) (xs := []) (by exact aup_new hq aup_same) (by exact aup_same) (by decide) fun x hx => by cases hx)), ?_⟩))
    exact ⟨_, Sub.refl, kk _ (((up7.trans U).new hp).new hq) (((hBt.new hp).new hq).less (by show n ≤ n + 16 - 2 * 8; omega))⟩
end
end SW
namespace SW
open PySem PySem.Spec L2 AL
theorem nm_at {nm : List Str} {i : Nat} {t : Tm} (h : (nm.map Tm.name)[i]? = some t) : ∃ x, nm[i]? = some x ∧ t = .name x := by
  rw [List.getElem?_map] at h
  obtain ⟨x, hx, e⟩ := Option.map_eq_some_iff.mp h
  exact ⟨x, hx, e.symm⟩
theorem nm_ok {nm : List Str} (h : nm.length ≤ 400) : LsOk (nm.map Tm.name) (List.range nm.length) := by
  refine ⟨⟨fun i w ks h k hk => ?_, fun i w ks h => ?_, by rw [List.length_map]; exact h⟩, by rw [List.length_map]; exact Good.range _⟩
  · obtain ⟨x, _, e⟩ := nm_at h
    cases e
  · obtain ⟨x, _, e⟩ := nm_at h
    cases e
theorem nm_one (nm : List Str) : OneT (nm.map Tm.name) := fun t ht => by
  obtain ⟨x, _, rfl⟩ := List.mem_map.mp ht
  show 0 ≠ 2
  decide
theorem and_pow (i j : Nat) : decide (2 ^ i &&& 1 * 2 ^ j = 0) = !decide (i = j) := by
  rw [Nat.one_mul]
  by_cases c : i = j
  · subst c
    rw [Nat.and_self, decide_eq_true rfl, decide_eq_false]
    · rfl
    · have : 1 ≤ 2 ^ i := Nat.one_le_two_pow
      omega
  · rw [decide_eq_false c, decide_eq_true]
    · rfl
    refine Nat.eq_of_testBit_eq fun k => ?_
    rw [Nat.testBit_and, Nat.testBit_two_pow, Nat.testBit_two_pow, Nat.zero_testBit]
    by_cases c1 : i = k
    · rw [decide_eq_false (fun z : j = k => c (c1.trans z.symm)), Bool.and_false]
    · rw [decide_eq_false c1, Bool.false_and]
theorem same_str (G : AH) (d : Nat) (x : Str) : SameW G d (.str x) (.str x) := by
  cases d with
  | zero => exact ⟨rfl, trivial⟩
  | succ d => exact .inl ⟨rfl, trivial⟩
theorem same_ls2 {G : AH} {d : Nat} {a b c e : W} (h1 : SameW G d a c) (h2 : SameW G d b e) : SameW G (d + 1) (.lst [a, b]) (.lst [c, e]) :=
  .inr ⟨[(a, c), (b, e)], by show 2 ≤ 4000; decide, fun z hz => by
    rcases List.mem_cons.mp hz with rfl | hz
    · exact h1
    · rw [List.mem_singleton] at hz; subst hz; exact h2, .inl ⟨rfl, rfl⟩⟩
def pows (m : Nat) : List Nat := (List.range m).map fun k => 2 ^ k
theorem pows_len (m : Nat) : (pows m).length = m := by unfold pows; rw [List.length_map, List.length_range]
theorem pows_succ (m : Nat) : pows (m + 1) = pows m ++ [2 ^ m] := by
  unfold pows
  rw [List.range_succ, List.map_append]; rfl
theorem pows_at {m k : Nat} (h : k < m) : (pows m).getD k 0 = 2 ^ k := by
  unfold pows
  rw [List.getD_eq_getElem?_getD, List.getElem?_map, List.getElem?_range h]; rfl
section
variable {P : Program} {w : World} {K : PySem.W.Frag} {mg : Str → Option Value} {base : Heap}
/-! ### _law_alone_right of k85 -/
abbrev sAr : Stmt := top 52
abbrev nAr : List Str := ["box", "many", "names", "terms", "leads", "kind", "known", "bits", "entire", "i", "step", "j", "name"]
theorem sc_ar : FnScope nAr ["box"] (defScope sAr) := ⟨rfl, rfl, rfl, by decide +kernel, rfl, by decide +kernel, by decide +kernel⟩
def spAr : ASp := fun ws G K _ => ∃ (a : Addr) (n : Nat), ws = [.ref a] ∧ BoxAt G a (n + 26) ∧ ∀ G', Upto [a] G G' → BoxAt G' a n → K (.bl true) G'
theorem ok_ar {CS CN : Addr} {f : Addr} {fd : FuncData} (F : Fun K "_law_alone_right" "_law_alone_right" sAr f fd) (B : Bl mg) (CTk : Cal P w K mg base "_law_take" 1 ["box", "many"] spTake) (CWs : Cal P w K mg base "_law_words" 2 ["box", "many"] spWs) (CSm : Cal P w K mg base "_law_same" 4 ["found", "due"] (spSame 3))
    (TN : KT K CN) (MN : Mkr P w K mg base "Names" CN 2 ["self", "terms", "leads"] (spNi CN)) (MT : Mtd P w K mg base CN "top" 1 ["self"] (spNt CN)) (MW : Mtd P w K mg base CN "worth" 2 ["self", "term", "known"] (spNw CN)) (MF : Mtd P w K mg base CN "free" 2 ["self", "known", "k", "name"] (spFre CN)) (CL : Cal P w K mg base "learned" 3 ["kind"] (spLe CS CN)) : FnOk P w K mg base CX0 5 f fd ["box"] (low ⟨P, w, K⟩ spAr) := by
  refine fnA_of F sc_ar (fun ws G Kc KE ⟨_, _, e, _⟩ => by rw [e]; rfl) fun cdv A outer s H E ws G Kc KE hr ⟨a, n, e, hB, kk⟩ => ?_
  subst e
  have hr1 : Room 1 (A.deeper (PyProof.Rows.envOfC "_law_alone_right" (defScope sAr) s.heap.objs.size f cdv)) := hr.mono (by decide)
  have hr2 : Room 2 (A.deeper (PyProof.Rows.envOfC "_law_alone_right" (defScope sAr) s.heap.objs.size f cdv)) := hr.mono (by decide)
  have hr3 : Room 3 (A.deeper (PyProof.Rows.envOfC "_law_alone_right" (defScope sAr) s.heap.objs.size f cdv)) := hr.mono (by decide)
  have szl : sizeLine = 16777216 := rfl
  refine s_cons (s_set (i := 1) sc_ar.nd (q_add (q_int (q_cal CTk hr1 (a_cons (qv 0 rfl (a_cons (q_ix (q_lstV (a_cons (q_int (a_cons (q_int (a_nil (q_cal CTk hr1 (a_cons (qv 0 rfl (a_cons (q_int (a_nil ⟨a, n + 25, 2, rfl, hB.less (by omega), by decide, by decide, fun z1 G1 x0 x1 off1 hB1 => ?_⟩))))))))))))))))))))
  obtain ⟨c, hc, c1, c2⟩ : ∃ c : Int, atI [W.int 24, W.int 400] z1 = some (.int c) ∧ 0 < c ∧ c ≤ 400 := by
    rcases (show z1 = 0 ∨ z1 = 1 by omega) with rfl | rfl
    · exact ⟨24, rfl, by decide, by decide⟩
    · exact ⟨400, rfl, by decide, by decide⟩
  refine fIx_ls (xs := [W.int 24, W.int 400]) rfl hc (a_nil ⟨a, n + 24, c, rfl, hB1.less (by omega), c1, by omega, fun z2 G2 y0 y1 off2 hB2 => addI ?_⟩)
  have up2 : Upto [a] G G2 := (Upto.off off1).trans (.off off2)
  obtain ⟨M, hM, M1, M400⟩ : ∃ M : Nat, 1 + z2 = M ∧ 1 ≤ M ∧ M ≤ 400 := ⟨(1 + z2).toNat, by omega, by omega, by omega⟩
  rw [hM]
  clear hB1 off1 off2 hM
  -- names
  refine s_cons (s_set (i := 2) sc_ar.nd (q_cal CWs hr2 (a_cons (qv 0 rfl (a_cons (qv 1 rfl (a_nil ⟨a, n + 16, M, rfl, by omega, hB2, fun nm G5 p5 hl hnd hsm up5 hB5 hp5 hp50 hp51 => ?_⟩)))))))
  subst hl
  have up5 := up2.trans up5
  have O := nm_ok M400
  have tl : (nm.map Tm.name).length = nm.length := List.length_map _
  -- terms, leads
  refine s_cons (s_par (i := 3) (j := 4) sc_ar.nd (q_lc sc_ar.nd (blkOk_by (N := nAr) (sc := defScope sAr) (own := [("name", 12)]) (by decide +kernel)) (i_list (qv 2 rfl ⟨_, hp51, ?_⟩))))
  refine lk_mapZ (zs := nm) W.str (fun x => (Tm.name x).W) sc_ar.nd (by omega) (fun D ws hD => aup_new hD hp51) (fun x hx D ws hD s0 H0 C0 cl fp => ?_) (fun T hT => ?_)
  · exact q_tup (a_cons (q_str (a_cons (qv 12 rfl (a_nil ⟨rfl, rfl⟩)))))
  have Ta : T ≠ a := (Upto.boxN hB5 hT).symm
  refine q_lrg1 B.range B.list (qv 1 rfl ⟨RgOk.of_le (by omega) (by omega) (by omega) (by omega), fun L hL => ?_⟩)
  rw [show ((nm.length : Int)).toNat = nm.length by omega, rng0N]
  have eT : nm.map (fun x => (Tm.name x).W) = tW (nm.map Tm.name) := by unfold tW; rw [List.map_map]; rfl
  rw [eT] at hL ⊢
  have hT6 : (aup (aup G5 T (.lst (tW (nm.map Tm.name)))) L (.lst ((List.range nm.length).map fun (j : Nat) => W.int j))) T = some (.lst (tW (nm.map Tm.name))) := aup_new hL aup_same
  have hL6 : (aup (aup G5 T (.lst (tW (nm.map Tm.name)))) L (.lst ((List.range nm.length).map fun (j : Nat) => W.int j))) L = some (.lst (nW (List.range nm.length))) := aup_same
  have hN6 : (aup (aup G5 T (.lst (tW (nm.map Tm.name)))) L (.lst ((List.range nm.length).map fun (j : Nat) => W.int j))) p5 = some (.lst (nm.map W.str)) := aup_new hL (aup_new hT hp51)
  have hB6 := (hB5.new (o := .lst (tW (nm.map Tm.name))) hT).new (o := .lst ((List.range nm.length).map fun (j : Nat) => W.int j)) hL
  have up6 := (up5.new (o := .lst (tW (nm.map Tm.name))) hT).new (o := .lst ((List.range nm.length).map fun (j : Nat) => W.int j)) hL
  generalize aup (aup G5 T (.lst (tW (nm.map Tm.name)))) L (.lst ((List.range nm.length).map fun (j : Nat) => W.int j)) = G6 at hT6 hL6 hN6 hB6 up6 ⊢
  clear hT hL hB5 up5 hB2 up2
  -- kind
  have hh := held_names nm
  refine s_cons (s_set (i := 5) sc_ar.nd (q_make MN hr3 (a_cons (qv 3 rfl (a_cons (qv 4 rfl (a_nil fun kA dx hkA => ⟨kA, dx, .ref T, .ref L, nm.map Tm.name, List.range nm.length, rfl, aup_same, by exact aup_new hkA hT6, by exact aup_new hkA hL6, by omega, rfl, ?_⟩)))))))
  rw [aup_aup, hh]
  have ka : kA ≠ a := (Upto.boxN hB6 hkA).symm
  have hk7 : (aup G6 kA (.ins CN dx (fsN (nm.map Tm.name) (List.range nm.length) nm))) kA = some (.ins CN dx (fsN (nm.map Tm.name) (List.range nm.length) nm)) := aup_same
  have hT7 := aup_new (u := .ins CN dx (fsN (nm.map Tm.name) (List.range nm.length) nm)) hkA hT6
  have hN7 := aup_new (u := .ins CN dx (fsN (nm.map Tm.name) (List.range nm.length) nm)) hkA hN6
  have hB7 := hB6.new (o := .ins CN dx (fsN (nm.map Tm.name) (List.range nm.length) nm)) hkA
  have up7 := up6.new (o := .ins CN dx (fsN (nm.map Tm.name) (List.range nm.length) nm)) hkA
  generalize aup G6 kA (.ins CN dx (fsN (nm.map Tm.name) (List.range nm.length) nm)) = G7 at hk7 hT7 hN7 hB7 up7 ⊢
  clear hT6 hL6 hN6 hB6 up6 hkA
  -- known, bits, entire
  refine s_cons (s_par3 (i := 6) (j := 7) (l := 8) sc_ar.nd (q_ix (q_cal CL hr3 (a_cons (qv 5 rfl (a_nil ⟨kA, dx, nm.map Tm.name, List.range nm.length, rfl, O, nm_one nm, by omega, .inr ⟨by rw [hh]; exact hk7, fun st kn Ln hl => q_int (fIx_tup (v := .lst (nW kn)) rfl ?_)⟩⟩))))))
  refine q_lst (a_nil fun b hb => q_int ?_)
  rw [hh] at Ln
  rw [tl] at hl
  have al := alone_row hnd Ln
  have ek : kn = pows nm.length := by
    refine List.ext_getElem (by rw [pows_len]; exact hl) fun i h1 h2 => ?_
    have := al i (by omega)
    have h3 := pows_at (m := nm.length) (k := i) (by omega)
    rw [List.getD_eq_getElem?_getD, List.getElem?_eq_getElem h1] at this
    rw [List.getD_eq_getElem?_getD, List.getElem?_eq_getElem h2] at h3
    exact Eq.trans this h3.symm
  have ba : b ≠ a := (Upto.boxN hB7 hb).symm
  have bk : b ≠ kA := (ane_none hk7 hb).symm
  have bT : b ≠ T := (ane_none hT7 hb).symm
  have bN : b ≠ p5 := (ane_none hN7 hb).symm
  refine SQ.st [some (.ref a), some (.int nm.length), some (.ref p5), some (.ref T), some (.ref L), some (.ref kA), some (.lst (nW kn)), some (.ref b), some (.int (2 ^ 0 : Nat)), none, none, none, none] rfl ?_
  refine s_cons (s_for PassesOwn.never rfl (i_range1 rfl B.range (qv 1 rfl ?_)))
  refine ⟨by omega, by omega, fun t ρ' G' => ∃ v9, ρ' = [some (.ref a), some (.int nm.length), some (.ref p5), some (.ref T), some (.ref L), some (.ref kA), some (.lst (nW kn)), some (.ref b), some (.int (2 ^ t : Nat)), v9, none, none, none] ∧ G' = aup G7 b (.lst (nW (pows t))), ⟨none, rfl, rfl⟩, fun _ _ _ _ _ => trivial, fun t x ρ' G' hx ⟨v9, e1, e2⟩ => ?_, fun ρ' G' ⟨v9, e1, e2⟩ => ?_⟩
  · obtain ⟨ht, rfl⟩ := rng0_item hx
    have ht : t < nm.length := by omega
    subst e1 e2
    refine g_name (i := 9) sc_ar.nd ?_
    refine s_cons (s_expr (q_append (qv 7 rfl ⟨b, _, rfl, aup_same, a_cons (qv 8 rfl (a_nil ⟨_, aup_same, by rw [nW_length, pows_len]; omega, ?_⟩))⟩)))
    refine s_cons (s_set (i := 8) sc_ar.nd (q_add (qv 8 rfl (qv 8 rfl (addI ?_)))))
    refine s_nil ⟨some (.int (t : Nat)), ?_, ?_⟩
    · rw [show ((2 ^ (t + 1) : Nat) : Int) = ((2 ^ t : Nat) : Int) + ((2 ^ t : Nat) : Int) by rw [Nat.pow_succ]; omega]; rfl
    · rw [aup_aup, pows_succ]
      unfold nW
      rw [List.map_append]; rfl
  subst e1 e2
  rw [rngW_length, show ((nm.length : Int)).toNat = nm.length by omega]
  have hk8 := aup_new (u := .lst (nW (pows nm.length))) hb hk7
  have hT8 := aup_new (u := .lst (nW (pows nm.length))) hb hT7
  have hN8 := aup_new (u := .lst (nW (pows nm.length))) hb hN7
  have hb8 : (aup G7 b (.lst (nW (pows nm.length)))) b = some (.lst (nW (pows nm.length))) := aup_same
  have hB8 := hB7.new (o := .lst (nW (pows nm.length))) hb
  have up8 := up7.new (o := .lst (nW (pows nm.length))) hb
  generalize aup G7 b (.lst (nW (pows nm.length))) = G8 at hk8 hT8 hN8 hb8 hB8 up8 ⊢
  clear hk7 hT7 hN7 hB7 up7 hb
  have fnt := fsN_no (nm.map Tm.name) (List.range nm.length) nm (m := "top") (by decide +kernel) (by decide +kernel) (by decide +kernel)
  have fnw := fsN_no (nm.map Tm.name) (List.range nm.length) nm (m := "worth") (by decide +kernel) (by decide +kernel) (by decide +kernel)
  have fnf := fsN_no (nm.map Tm.name) (List.range nm.length) nm (m := "free") (by decide +kernel) (by decide +kernel) (by decide +kernel)
  have smI : ∀ (l : List Nat) (x : W), x ∈ nW l → ∀ d, SameW G8 d x x := fun l x hx d => by
    unfold nW at hx
    obtain ⟨j, _, rfl⟩ := List.mem_map.mp hx
    exact same_int _ _ _
  refine s_cons (s_if (WQ.test (w_or (b_not (b_val (q_cal CSm (hr.mono (by decide)) (a_cons (q_lstV (a_cons (qv 6 rfl (a_cons (q_meth0 MT hr1 (qv 5 rfl ⟨kA, dx, _, rfl, hk8, fnt, kA, dx, nm.map Tm.name, List.range nm.length, nm, rfl, hk8, by omega, a_nil ?_⟩)))))))))))))
  refine a_cons (q_lstV (a_cons (qv 7 rfl (a_cons (q_sub (qv 8 rfl (q_int (subI (a_nil (a_nil ⟨_, _, rfl, same_ls2 (same_ls (d := 1) (xs := nW kn) rfl (by rw [ek]; exact hb8) (by rw [nW_length]; omega) fun x hx => smI kn x hx _) ?_, ?_⟩))))))))))
  · unfold topM
    have : 1 ≤ 2 ^ nm.length := Nat.one_le_two_pow
    rw [show ((2 ^ nm.length - 1 : Nat) : Int) = ((2 ^ nm.length : Nat) : Int) - 1 by omega]
    exact same_int _ _ _
  refine ifB_F rfl (w_or1 (b_not (b_val (q_cal CSm (hr.mono (by decide)) (a_cons (q_fld (qv 5 rfl ⟨kA, CN, dx, _, .lst (nm.map W.str), rfl, hk8, TN.cls, TN.h, fsN_h _ _ _, a_cons (qv 2 rfl (a_nil ⟨_, _, rfl, SameW.up (SameW.up (same_ls (d := 0) (xs := nm.map W.str) rfl (by exact hN8) (by rw [List.length_map]; omega) fun x hx => ?_)), ?_⟩))⟩)))))))
  · obtain ⟨j, _, rfl⟩ := List.mem_map.mp hx
    exact same_str _ _ _
  refine ifB_F rfl (s_nil ?_)
  -- turns
  refine s_cons (s_for PassesOwn.never rfl (i_range1 rfl B.range (q_int ?_)))
  refine ⟨by omega, by omega, fun t ρ' G' => ∃ v9 v10 v11, ρ' = [some (.ref a), some (.int nm.length), some (.ref p5), some (.ref T), some (.ref L), some (.ref kA), some (.lst (nW kn)), some (.ref b), some (.int (2 ^ nm.length : Nat)), v9, v10, v11, none] ∧ BoxAt G' a (n + 16 - 2 * t) ∧ Upto [a] G8 G', ⟨v9, none, none, rfl, hB8, Upto.refl⟩, fun _ _ _ _ _ => trivial, fun t x ρ' G' hx ⟨v9, v10, v11, e1, hBt, U⟩ => ?_, fun ρ' G' ⟨v9, v10, v11, e1, hBt, U⟩ => ?_⟩
  · obtain ⟨ht, rfl⟩ := rng0_item hx
    have ht : t < 8 := ht
    subst e1
    refine g_name (i := 10) sc_ar.nd ?_
    refine s_cons (s_par (i := 9) (j := 11) sc_ar.nd (q_cal CTk hr1 (a_cons (qv 0 rfl (a_cons (qv 1 rfl (a_nil ⟨a, n + 15 - 2 * t, nm.length, rfl, hBt.less (by omega), by omega, by omega, fun z8 G9 s0 s1 off8 hB9 => ?_⟩)))))))
    refine q_cal CTk hr1 (a_cons (qv 0 rfl (a_cons (qv 1 rfl (a_nil ⟨a, n + 14 - 2 * t, nm.length, rfl, hB9.less (by omega), by omega, by omega, fun z9 G10 w0 w1 off9 hB10 => ?_⟩)))))
    obtain ⟨i, rfl, hi⟩ : ∃ k : Nat, z8 = k ∧ k < nm.length := ⟨z8.toNat, by omega, by omega⟩
    obtain ⟨j, rfl, hj⟩ : ∃ k : Nat, z9 = k ∧ k < nm.length := ⟨z9.toNat, by omega, by omega⟩
    have U10 : Upto [a] G8 G10 := (U.trans (.off off8)).trans (.off off9)
    refine SQ.st [some (.ref a), some (.int nm.length), some (.ref p5), some (.ref T), some (.ref L), some (.ref kA), some (.lst (nW kn)), some (.ref b), some (.int (2 ^ nm.length : Nat)), some (.int (i : Nat)), some (.int (t : Nat)), some (.int (j : Nat)), none] rfl ?_
    have hk10 := U10.at1 hk8 ka
    have hT10 := U10.at1 hT8 Ta
    have hN10 := U10.at1 hN8 hp5
    have hb10 := U10.at1 hb8 ba
    have ti : (tW (nm.map Tm.name))[i]? = some (Tm.name nm[i]).W := by unfold tW; rw [List.getElem?_map, List.getElem?_map, List.getElem?_eq_getElem hi]; rfl
    refine s_cons (s_if (WQ.test (w_or (b_ne (u64 hr) (q_meth MW hr2 (qv 5 rfl ⟨kA, dx, _, rfl, hk10, fnw, a_cons (q_ix (qv 3 rfl (qv 9 rfl (fIx_ls (xs := tW (nm.map Tm.name)) (by exact hT10) (atI_nat ti) (a_cons (qv 6 rfl (a_nil ⟨kA, dx, nm.map Tm.name, List.range nm.length, nm, Tm.name nm[i], _, kn, rfl, hk10, by omega, rfl, (fun k hk => by cases hk), (show (0 : Nat) ≠ 2 by decide), fun x e => by cases e; exact List.getElem_mem hi, q_ix (qv 7 rfl (qv 9 rfl (fIx_ls (xs := nW (pows nm.length)) (by exact hb10) (nW_at (by rw [pows_len]; exact hi)) ?_)))⟩)))))))⟩))))))
    have e1 : nmW nm (Tm.name nm[i]) kn = (pows nm.length).getD i 0 := by
      rw [pows_at hi]
      show 1 * 2 ^ nm.idxOf nm[i] = _
      rw [hnd.idxOf_getElem i hi, Nat.one_mul]
    rw [e1]
    refine ifB_ndec (fun h => absurd rfl h) (fun _ => w_or1 (b_ne (u64 hr) (q_meth MF hr2 (qv 5 rfl ⟨kA, dx, _, rfl, hk10, fnf, a_cons (qv 6 rfl (a_cons (qv 9 rfl (a_cons (q_ix (qv 2 rfl (qv 11 rfl (fIx_ls (xs := nm.map W.str) (by exact hN10) (atI_nat (by rw [List.getElem?_map, List.getElem?_eq_getElem hj]; rfl)) (a_nil ⟨kA, dx, nm.map Tm.name, List.range nm.length, nm, _, kn, i, nm[j], rfl, hk10, by omega, rfl, by omega, List.getElem_mem hj, fun y hy => (hsm y hy).1, q_ne (u64 hr) (qv 9 rfl (qv 11 rfl ?_))⟩)))))))))⟩))))
    have e2 : decide (kn.getD i 0 &&& 1 * 2 ^ nm.idxOf nm[j] = 0) = !decide (((i : Nat) : Int) = (j : Nat)) := by
      rw [al i hi, hnd.idxOf_getElem j hj, and_pow]
      by_cases c : i = j
      · rw [decide_eq_true c, decide_eq_true (by omega)]
      · rw [decide_eq_false c, decide_eq_false (by omega)]
    rw [e2]
    refine ifB_ndec (fun h => absurd rfl h) (fun _ => s_nil (s_nil ⟨_, _, _, rfl, hB10.less (by omega), U10⟩))
  · subst e1
    rw [rngW_length] at hBt
    exact s_cons (s_ret (q_bl ⟨_, Sub.refl, kk _ (up8.trans U) (hBt.less (by show n ≤ n + 16 - 2 * 8; omega))⟩))
end
end SW
namespace SW
open PySem PySem.Spec L2 AL
/-! ### what repr shows of terms, edges, leads -/
def TmS : Tm → Prop
  | .num n => n.natAbs < 10 ^ 18
  | .name x => Sm x 8
  | .of w ks => Sm w 8 ∧ ks.length ≤ 4 ∧ ∀ k ∈ ks, k < 1000
theorem nW_sm : ∀ {ks : List Nat}, (∀ k ∈ ks, k < 1000) → smWs (nW ks) = true ∧ okWs (nW ks) = true ∧ wgWs (nW ks) ≤ ks.length * 65 ∧ dpWs (nW ks) = 0 := fun {ks} h => by
  refine ⟨smWs_of fun w hw => ?_, okWs_nW ks, ?_, dpWs_nW ks⟩
  · obtain ⟨k, hk, rfl⟩ := List.mem_map.mp hw
    have := h k hk
    show decide (((k : Nat) : Int).natAbs < 10 ^ 18) = true
    refine decide_eq_true ?_
    rw [Int.natAbs_natCast]; omega
  · have := wgWs_le (B := 64) (ws := nW ks) fun w hw => by
      obtain ⟨k, hk, rfl⟩ := List.mem_map.mp hw
      exact Nat.le_refl _
    rw [nW_length] at this; exact this
theorem TmS.rp {t : Tm} (h : TmS t) : smW t.W = true ∧ okW t.W = true ∧ wgW t.W ≤ 300 ∧ dpW t.W ≤ 2 := by
  refine ⟨?_, ?_, ?_, dpW_tm t⟩
  · cases t with
    | num n => show (true && (decide (n.natAbs < 10 ^ 18) && true)) = true; rw [decide_eq_true (show n.natAbs < 10 ^ 18 from h)]; rfl
    | name x => rfl
    | of w ks => show (true && (true && (smWs (nW ks) && true))) = true; rw [(nW_sm h.2.2).1]; rfl
  · cases t with
    | num n => show (PyData.strOk (Str.ofString "num") && (true && true)) = true; decide +kernel
    | name x => show (PyData.strOk _ && (PyData.strOk x && true)) = true; rw [h.1]; decide +kernel
    | of w ks => show (PyData.strOk _ && (PyData.strOk w && (okWs (nW ks) && true))) = true; rw [h.1.1, (nW_sm h.2.2).2.1]; decide +kernel
  · cases t with
    | num n => show 3 + 1 + (64 + 1 + 0) ≤ 300; decide
    | name x =>
      have := h.2
      show 4 + 1 + (x.length + 1 + 0) ≤ 300
      omega
    | of w ks =>
      have := h.1.2
      have := (nW_sm h.2.2).2.2.1
      have := h.2.1
      show 2 + 1 + (w.length + 1 + (wgWs (nW ks) + 1 + 0)) ≤ 300
      omega
structure EdS (e : Ed) : Prop where
  a : e.a < 1000
  b : e.b < 1000
  w0 : 0 ≤ e.w
  w1 : e.w ≤ 10 ^ 12
  why : e.why = .tup [.str "told"]
theorem EdS.rp {e : Ed} (h : EdS e) : smW e.W = true ∧ okW e.W = true ∧ wgW e.W ≤ 300 ∧ dpW e.W ≤ 2 := by
  have e1 : decide (((e.a : Nat) : Int).natAbs < 10 ^ 18) = true := decide_eq_true (by rw [Int.natAbs_natCast]; have := h.a; omega)
  have e2 : decide (((e.b : Nat) : Int).natAbs < 10 ^ 18) = true := decide_eq_true (by rw [Int.natAbs_natCast]; have := h.b; omega)
  have e3 : decide (e.w.natAbs < 10 ^ 18) = true := decide_eq_true (by have := h.w0; have := h.w1; omega)
  unfold Ed.W
  rw [h.why]
  refine ⟨?_, ?_, ?_, ?_⟩
  · show (decide (((e.a : Nat) : Int).natAbs < 10 ^ 18) && (decide (((e.b : Nat) : Int).natAbs < 10 ^ 18) && (decide (e.w.natAbs < 10 ^ 18) && ((true && true) && true)))) = true
    rw [e1, e2, e3]; rfl
  · show (true && (true && (true && ((PyData.strOk _ && true) && true)))) = true
    decide +kernel
  · show 64 + 1 + (64 + 1 + (64 + 1 + ((4 + 1 + 0) + 1 + 0))) ≤ 300
    decide
  · show max 0 (max 0 (max 0 (max (max 0 0 + 1) 0))) + 1 ≤ 2
    decide
theorem rp_all {ts : List Tm} {es : List Ed} {ls : List Nat} (ht : ∀ t ∈ ts, TmS t) (he : ∀ e ∈ es, EdS e) (hl : ∀ k ∈ ls, k < 1000) (n1 : ts.length ≤ 400) (n2 : es.length ≤ 400) (n3 : ls.length ≤ 400) : RpOk (.lst [.lst (tW ts), .lst (eW es), .lst (nW ls)]) := by
  have t1 : smWs (tW ts) = true := smWs_of fun w hw => by obtain ⟨t, h, rfl⟩ := List.mem_map.mp hw; exact (ht t h).rp.1
  have t2 : okWs (tW ts) = true := okWs_of fun w hw => by obtain ⟨t, h, rfl⟩ := List.mem_map.mp hw; exact (ht t h).rp.2.1
  have t3 := wgWs_le (B := 300) (ws := tW ts) fun w hw => by obtain ⟨t, h, rfl⟩ := List.mem_map.mp hw; exact (ht t h).rp.2.2.1
  have t4 : dpWs (tW ts) ≤ 2 := dpWs_tW ts
  have e1 : smWs (eW es) = true := smWs_of fun w hw => by obtain ⟨t, h, rfl⟩ := List.mem_map.mp hw; exact (he t h).rp.1
  have e2 : okWs (eW es) = true := okWs_of fun w hw => by obtain ⟨t, h, rfl⟩ := List.mem_map.mp hw; exact (he t h).rp.2.1
  have e3 := wgWs_le (B := 300) (ws := eW es) fun w hw => by obtain ⟨t, h, rfl⟩ := List.mem_map.mp hw; exact (he t h).rp.2.2.1
  have e4 : dpWs (eW es) ≤ 2 := dpWs_of fun w hw => by obtain ⟨t, h, rfl⟩ := List.mem_map.mp hw; exact (he t h).rp.2.2.2
  obtain ⟨l1, l2, l3, l4⟩ := nW_sm hl
  rw [tW_length] at t3
  rw [(show (eW es).length = es.length from List.length_map _)] at e3
  refine .of ?_ ?_ ?_ ?_
  · show (okWs (tW ts) && (okWs (eW es) && (okWs (nW ls) && true))) = true
    rw [t2, e2, l2]; rfl
  · show (smWs (tW ts) && (smWs (eW es) && (smWs (nW ls) && true))) = true
    rw [t1, e1, l1]; rfl
  · show max (dpWs (tW ts) + 1) (max (dpWs (eW es) + 1) (max (dpWs (nW ls) + 1) 0)) + 1 ≤ 60
    rw [l4]; omega
  · show wgWs (tW ts) + 1 + (wgWs (eW es) + 1 + (wgWs (nW ls) + 1 + 0)) ≤ 700000
    have := Nat.mul_le_mul_right 301 n1
    have := Nat.mul_le_mul_right 301 n2
    have := Nat.mul_le_mul_right 65 n3
    omega
end SW
namespace SW
open PySem PySem.Spec L2 AL
/-! ### plain: the edges and leads of the law k85 -/
def ldS (M : Nat) (rev : Bool) (t k : Nat) : Nat := if k < M then k else if k < 2 * M - 1 ∧ ordN M rev (k - M) - 1 < t then ordN M rev (k - M) - 1 else k
def lsS (M : Nat) (rev : Bool) (t : Nat) : List Nat := (List.range (2 * M)).map (ldS M rev t)
theorem lsS_len (M : Nat) (rev : Bool) (t : Nat) : (lsS M rev t).length = 2 * M := by unfold lsS; rw [List.length_map, List.length_range]
theorem lsS_0 (M : Nat) (rev : Bool) : lsS M rev 0 = List.range (2 * M) := by
  unfold lsS
  refine (List.map_congr_left fun k _ => ?_).trans (List.map_id _)
  unfold ldS
  split
  · rfl
  · rw [if_neg fun z => Nat.not_lt_zero _ z.2]; rfl
theorem lsS_succ {M : Nat} {rev : Bool} {t : Nat} (ht : t < M - 1) : (lsS M rev t).set (atN M rev t) t = lsS M rev (t + 1) := by
  obtain ⟨a1, a2, a3⟩ := atN_lt (rev := rev) ht
  unfold lsS
  refine List.ext_getElem (by simp) fun i h1 h2 => ?_
  have hi : i < 2 * M := by simpa using h2
  rw [List.getElem_set, List.getElem_map, List.getElem_map, List.getElem_range]
  unfold ldS
  by_cases c : atN M rev t = i
  · rw [if_pos c, if_neg (by omega), if_pos ⟨by omega, by rw [← c, a3]; omega⟩, ← c, a3]; omega
  · rw [if_neg c]
    by_cases c1 : i < M
    · rw [if_pos c1, if_pos c1]
    · rw [if_neg c1, if_neg c1]
      have ne : i < 2 * M - 1 → ordN M rev (i - M) - 1 ≠ t := fun z e => by
        have := at_ord (rev := rev) (M := M) (p := i - M) (by omega)
        rw [e] at this
        omega
      by_cases c2 : i < 2 * M - 1 ∧ ordN M rev (i - M) - 1 < t
      · rw [if_pos c2, if_pos ⟨c2.1, by omega⟩]
      · rw [if_neg c2, if_neg]
        rintro ⟨z1, z2⟩
        have := ne z1
        exact c2 ⟨z1, by omega⟩
theorem lsS_end {M : Nat} {rev : Bool} (h2 : 2 ≤ M) : (lsS M rev (M - 1)).set (2 * M - 1) (M - 1) = lsN M rev := by
  unfold lsS lsN
  refine List.ext_getElem (by simp) fun i h1 h2 => ?_
  have hi : i < 2 * M := by simpa using h2
  rw [List.getElem_set, List.getElem_map, List.getElem_map, List.getElem_range]
  unfold ldS ldN
  by_cases c : 2 * M - 1 = i
  · rw [if_pos c, if_neg (by omega), if_pos c.symm]
  · rw [if_neg c]
    by_cases c1 : i < M
    · rw [if_pos c1, if_pos c1]
    · have := ordN_lt (rev := rev) (M := M) (p := i - M) (by omega)
      rw [if_neg c1, if_neg c1, if_neg (fun z : i = 2 * M - 1 => c z.symm), if_pos ⟨by omega, by omega⟩]
def told : W := .tup [.str "told"]
/-- the first edges -/
structure EdN (M : Nat) (rev : Bool) (es : List Ed) (i : Nat) : Prop where
  len : es.length = i
  all : ∀ e ∈ es, (∃ j, j < i ∧ e.a = j ∧ e.b = atN M rev j) ∧ 0 ≤ e.w ∧ e.w ≤ 10 ∧ e.why = told
  mem : ∀ j, j < i → (j, atN M rev j) ∈ ends es
theorem EdN.nil (M : Nat) (rev : Bool) : EdN M rev [] 0 := ⟨rfl, (fun e h => by cases h), fun j h => absurd h (Nat.not_lt_zero _)⟩
theorem EdN.snoc {M : Nat} {rev : Bool} {es : List Ed} {i : Nat} (h : EdN M rev es i) {w : Int} (w0 : 0 ≤ w) (w1 : w ≤ 10) : EdN M rev (es ++ [⟨i, atN M rev i, w, told⟩]) (i + 1) := by
  refine ⟨by rw [List.length_append, h.len]; rfl, fun e he => ?_, fun j hj => ?_⟩
  · rcases List.mem_append.mp he with he | he
    · obtain ⟨⟨j, h1, h2⟩, h3⟩ := h.all e he
      exact ⟨⟨j, by omega, h2⟩, h3⟩
    · rw [List.mem_singleton] at he
      subst he
      exact ⟨⟨i, Nat.lt_succ_self i, rfl, rfl⟩, w0, w1, rfl⟩
  · unfold ends
    rw [List.map_append]
    rcases Nat.lt_succ_iff_lt_or_eq.mp hj with c | c
    · exact List.mem_append_left _ (h.mem j c)
    · subst c
      exact List.mem_append_right _ (List.mem_singleton.mpr rfl)
/-- all edges -/
structure EdA (M : Nat) (rev : Bool) (es : List Ed) : Prop where
  len : es.length = M
  all : ∀ e ∈ es, ((∃ j, j < M - 1 ∧ e.a = j ∧ e.b = atN M rev j) ∨ (e.a = 2 * M - 1 ∧ e.b = M - 1)) ∧ 0 ≤ e.w ∧ e.w ≤ 10 ∧ e.why = told
  mem : ∀ j, j < M - 1 → (j, atN M rev j) ∈ ends es
  last : (2 * M - 1, M - 1) ∈ ends es
theorem EdN.fin {M : Nat} {rev : Bool} {es : List Ed} (h2 : 2 ≤ M) (h : EdN M rev es (M - 1)) : EdA M rev (es ++ [⟨2 * M - 1, M - 1, 1, told⟩]) := by
  refine ⟨by rw [List.length_append, h.len, List.length_singleton]; omega, fun e he => ?_, fun j hj => ?_, ?_⟩
  · rcases List.mem_append.mp he with he | he
    · obtain ⟨h1, h3⟩ := h.all e he
      exact ⟨.inl h1, h3⟩
    · rw [List.mem_singleton] at he
      subst he
      exact ⟨.inr ⟨rfl, rfl⟩, show (0 : Int) ≤ 1 by decide, show (1 : Int) ≤ 10 by decide, rfl⟩
  · unfold ends
    rw [List.map_append]
    exact List.mem_append_left _ (h.mem j hj)
  · unfold ends
    rw [List.map_append]
    exact List.mem_append_right _ (List.mem_singleton.mpr rfl)
section
variable {nm : List Str} {wd : Str} {z : Int} {rev : Bool} {es : List Ed}
theorem EdA.lt (R : RowN nm wd z) (h : EdA nm.length rev es) : ∀ e ∈ es, e.a < 2 * nm.length ∧ e.b < 2 * nm.length := fun e he => by
  have two := R.two
  rcases (h.all e he).1 with ⟨j, h1, h2, h3⟩ | ⟨h1, h2⟩
  · have := atN_lt (rev := rev) h1
    omega
  · omega
theorem EdA.closed (R : RowN nm wd z) (h : EdA nm.length rev es) : closedM (tsN nm wd z rev) (ends es) = lsN nm.length rev := by
  refine rowN_closed R h.mem h.last fun e he => ?_
  obtain ⟨q, hq, rfl⟩ := List.mem_map.mp he
  rcases (h.all q hq).1 with ⟨j, h1, h2, h3⟩ | ⟨h1, h2⟩
  · exact .inl ⟨j, h1, by show (q.a, q.b) = _; rw [h2, h3]⟩
  · exact .inr (by show (q.a, q.b) = _; rw [h1, h2])
theorem EdA.rp (R : RowN nm wd z) (h : EdA nm.length rev es) : RpOk (.lst [.lst (tW (tsN nm wd z rev)), .lst (eW es), .lst (nW (lsN nm.length rev))]) := by
  have two := R.two
  have few := R.few
  refine rp_all (fun t ht => ?_) (fun e he => ?_) (fun k hk => ?_) (by rw [tsN_len R]; omega) (by rw [h.len]; omega) (by rw [lsN_len]; omega)
  · obtain ⟨i, hi⟩ := List.mem_iff_getElem?.mp ht
    have hl := (List.getElem?_eq_some_iff.mp hi).1
    rw [tsN_len R] at hl
    have et := tmAt_of hi
    rcases tsN_what (rev := rev) R hl with ⟨_, x, hx, e⟩ | ⟨_, e⟩ | ⟨p, hp, _, e⟩
    · rw [← et, e]; exact R.sm x (List.mem_of_getElem? hx)
    · rw [← et, e]
      show z.natAbs < 10 ^ 18
      have := R.z
      omega
    · rw [← et, e]
      refine ⟨R.wd, by show 1 ≤ 4; decide, fun k hk => ?_⟩
      rw [List.mem_singleton] at hk
      have := ordN_lt (rev := rev) hp
      omega
  · obtain ⟨_, h1, h2, h3⟩ := h.all e he
    obtain ⟨a1, a2⟩ := h.lt R e he
    exact ⟨by omega, by omega, h1, by omega, h3⟩
  · unfold lsN at hk
    obtain ⟨j, hj, rfl⟩ := List.mem_map.mp hk
    have := (ldN_lt (rev := rev) two (List.mem_range.mp hj)).1
    omega
end
end SW
namespace SW
open PySem PySem.Spec L2 AL
theorem sub_ad {F G : AH} {a : Addr} (S : Sub F G) (n : F a = none) : Sub F (adel G a) := fun q o h => by
  rw [adel_ne (fun z => by subst z; rw [n] at h; cases h)]; exact S q o h
theorem BoxAt.dele {G : AH} {a q : Addr} {n : Nat} (h : BoxAt G a n) (hn : a ≠ q) : BoxAt (adel G q) a n := h.at (adel_ne hn)
theorem ixN_last {n : Nat} (h : 0 < n) : ixN n (-1) = some (n - 1) := by
  unfold ixN
  rw [if_neg (by omega), if_pos (by omega)]
  congr 1; omega
section
variable {P : Program} {w : World} {K : PySem.W.Frag} {mg : Str → Option Value} {base : Heap}
abbrev sLaw : Stmt := top 53
abbrev nLaw : List Str := ["script", "cells", "k", "box", "case", "terms", "at", "word", "number", "many", "edges", "leads", "i", "kept"]
theorem sc_law : FnScope nLaw ["script"] (defScope sLaw) := ⟨rfl, rfl, rfl, by decide +kernel, rfl, by decide +kernel, by decide +kernel⟩
def spLaw (c : Ct) : ASp := fun ws G K _ => ∃ (a : Addr) (ns : List Int), ws = [.ref a] ∧ Scr c G a ns ∧ ns.length ≤ 63 ∧ K (.bl true) G
theorem slots3 {X : Cx} {e : List Stmt} {ρ' : AS} {G : AH} {A : AEnds} {a b c : W} (hl : ρ'.length = 14) (h0 : ρ'[0]? = some (some a)) (h1 : ρ'[1]? = some (some b)) (h2 : ρ'[2]? = some (some c))
    (h : SQ X e [some a, some b, some c, none, none, none, none, none, none, none, none, none, none, none] G A) : SQ X e ρ' G A := by
  refine SQ.slots (by rw [hl]; rfl) (fun i w hi => ?_) h
  match i, hi with
  | 0, hi => cases hi; exact h0
  | 1, hi => cases hi; exact h1
  | 2, hi => cases hi; exact h2
  | i + 3, hi =>
    exfalso
    have : ([none, none, none, none, none, none, none, none, none, none, none] : AS)[i]? = some (some w) := hi
    have hm := List.mem_of_getElem? this
    simp at hm
theorem ok_law {f : Addr} {fd : FuncData} (F : Fun K "law" "law" sLaw f fd) (B : Bl mg) (CFo : Cal P w K mg base "_law_folded" 1 ["script", "many"] (spFold ⟨P, w, K⟩)) (CBx : Cal P w K mg base "_law_box" 1 ["script", "k"] spBox) (CCa : Cal P w K mg base "_law_case" 3 ["box", "first"] spCase) (CT : Cal P w K mg base "_law_take" 1 ["box", "many"] spTake)
    (CSa : Cal P w K mg base "_law_same" 4 ["found", "due"] (spSame 3)) (CCl : Cal P w K mg base "closed" 3 ["terms", "edges"] spClosed)
    (CCr : Cal P w K mg base "_law_cheap_right" 5 ["box", "case", "leads"] spCr) (CSr : Cal P w K mg base "_law_signs_right" 5 ["case", "leads"] spSr) (CNr : Cal P w K mg base "_law_names_right" 5 ["box", "case", "leads"] spNr) (CAr : Cal P w K mg base "_law_alone_right" 5 ["box"] spAr) : FnG P w K mg base 7 f fd ["script"] (low ⟨P, w, K⟩ (spLaw ⟨P, w, K⟩)) := by
  refine fnG_of F sc_law (fun ws G Kc KE ⟨a, ns, e, _⟩ => by rw [e]; rfl) fun cdv A outer s H E ws G Kc KE hG hr ⟨a, ns, e, hA, hn, kk⟩ => ?_
  subst e
  have hr1 : Room 1 (A.deeper (PyProof.Rows.envOfC "law" (defScope sLaw) s.heap.objs.size f cdv)) := hr.mono (by decide)
  have hr3 : Room 3 (A.deeper (PyProof.Rows.envOfC "law" (defScope sLaw) s.heap.objs.size f cdv)) := hr.mono (by decide)
  have hr4 : Room 4 (A.deeper (PyProof.Rows.envOfC "law" (defScope sLaw) s.heap.objs.size f cdv)) := hr.mono (by decide)
  have u70 : (A.deeper (PyProof.Rows.envOfC "law" (defScope sLaw) s.heap.objs.size f cdv)).units + 70 < cLine := by
    have := hr.un; omega
  have szl : sizeLine = 16777216 := rfl
  refine s_cons (s_set (i := 1) sc_law.nd (q_cal CFo hr1 (a_cons (qv 0 rfl (a_cons (q_int (a_nil ⟨a, ns, 3, rfl, hA, by decide, by decide, hn, fun c ms hc hms => ?_⟩)))))))
  have S0 : Sub G (aup G c (.lst (ms.map W.int))) := Sub.new hc
  have hcl : (aup G c (.lst (ms.map W.int))) c = some (.lst (ms.map W.int)) := aup_same
  have m2 : ms.length ≤ 1000 := by omega
  generalize aup G c (.lst (ms.map W.int)) = G1 at S0 hcl
  refine s_cons (s_for (L2.passes_of rfl) rfl (i_range1 rfl B.range (q_len B.len (a_cons (qv 1 rfl (a_nil ⟨_, hcl, ?_⟩))))))
  dsimp only [onI]
  rw [List.length_map]
  refine ⟨by omega, by omega, ?_⟩
  refine ⟨fun i ρ' G' => ρ'.length = 14 ∧ ρ'[0]? = some (some (.ref a)) ∧ ρ'[1]? = some (some (.ref c)) ∧ Sub G1 G', ⟨rfl, rfl, rfl, Sub.refl⟩, fun _ _ _ _ _ => trivial, fun k x ρ' G' hx ⟨q1, q2, q3, SG⟩ => ?_, fun ρ' G' ⟨q1, q2, q3, SG⟩ => ?_⟩
  · obtain ⟨hk, rfl⟩ := rng0_item hx
    have hk : k < ms.length := by simpa using hk
    refine g_name (i := 2) sc_law.nd ?_
    refine slots3 (a := .ref a) (b := .ref c) (c := .int k) (by rw [List.length_set]; exact q1) (by rw [List.getElem?_set_ne (by decide)]; exact q2) (by rw [List.getElem?_set_ne (by decide)]; exact q3) (List.getElem?_set_self (by rw [q1]; decide)) ?_
    clear q1 q2 q3
    -- the box and the case
    refine s_cons (s_set (i := 3) sc_law.nd (q_cal CBx hr1 (a_cons (qv 1 rfl (a_cons (qv 2 rfl (a_nil ⟨c, ms, k, rfl, SG _ _ hcl, by omega, fun bx Bx hbx hBx => ?_⟩)))))))
    have hb0 : G1 bx = none := SG.free hbx
    have hB0 : BoxAt (aup G' bx (.lst Bx)) bx 1000000 := ⟨Bx, aup_same, hBx⟩
    have SG2 : Sub G1 (aup G' bx (.lst Bx)) := sub_aup SG hb0
    generalize aup G' bx (.lst Bx) = G2 at hB0 SG2
    clear hbx
    refine s_cons (s_set (i := 4) sc_law.nd (q_cal CCa hr3 (a_cons (qv 3 rfl (a_cons (q_eq (u64 hr) (qv 2 rfl (q_int (a_nil ⟨bx, 900000, decide ((k : Int) = 0), rfl, hB0.less (by omega), fun nm wd z rev d kws G3 up3 hB3 gd dbx hd3 DI3 dl R => ?_⟩)))))))))
    obtain ⟨Fc, hFb, hF3, hFd, hSF⟩ : ∃ Fc : AH, Fc bx = none ∧ Sub Fc G3 ∧ Fc d = some (.dK kws) ∧ Sub G1 Fc := by
      refine ⟨adel G3 bx, if_pos rfl, fun q o h => ?_, by rw [adel_ne dbx]; exact hd3, sub_ad (sub_upN SG2 up3 hb0) hb0⟩
      by_cases z : q = bx
      · subst z; rw [show adel G3 q q = none from if_pos rfl] at h; cases h
      · rw [adel_ne z] at h; exact h
    clear up3 gd hd3 hB0 SG2
    have two := R.two
    have few := R.few
    have tl := tsN_len (rev := rev) R
    have T := tsN_ok (rev := rev) R
    have ll := lsN_len (rev := rev) nm.length
    have CI : ∀ G, Sub Fc G → CaI G d (.lst (nW (lsN nm.length rev))) kws nm wd z rev := fun G S => ⟨S _ _ hFd, DI3, dl, R, rfl⟩
    refine s_cons (s_asg (qv 4 rfl (g_tup rfl (gs_cons (g_name (i := 5) sc_law.nd (gs_cons (g_name (i := 6) sc_law.nd (gs_cons (g_name (i := 7) sc_law.nd (gs_cons (g_name (i := 8) sc_law.nd (gs_nil ?_))))))))))))
    refine s_cons (s_set (i := 9) sc_law.nd (q_add (q_lenD B.len (a_cons (qv 6 rfl (a_nil ⟨_, kws, rfl, .inl (hF3 _ _ hFd), q_int (addI ?_)⟩))))))
    refine SQ.st [some (.ref a), some (.ref c), some (.int k), some (.ref bx), some (caW d nm wd z rev), some (.lst (tW (tsN nm wd z rev))), some (.ref d), some (.str wd), some (.int z), some (.int nm.length), none, none, none, none] (by rw [show (nm.length : Int) = (kws.length : Int) + 1 by omega]; rfl) ?_
    -- edges
    refine s_cons (s_setLc (i := 10) sc_law.nd (blkOk_by (N := nLaw) (sc := defScope sLaw) (own := [("i", 12)]) (by decide +kernel)) (i_range1 rfl B.range (q_sub (qv 9 rfl (q_int (subI ?_))))))
    refine ⟨by omega, by omega, ?_⟩
    rw [show ((nm.length : Int) - 1).toNat = nm.length - 1 by omega]
    refine ⟨fun eA heA => ?_⟩
    have hFe : Fc eA = none := hF3.free heA
    have hbe : bx ≠ eA := Upto.boxN hB3 heA
    refine ⟨fun i G' => ∃ es, EdN nm.length rev es i ∧ G' eA = some (.lst (eW es)) ∧ Sub Fc G' ∧ BoxAt G' bx (900000 - i), ⟨[], .nil _ _, aup_same, sub_aup hF3 hFe, hB3.new heA⟩, fun _ _ _ _ => trivial, fun i x G' hx ⟨es, hE, he, hF, hBi⟩ s0 H0 C0 cl fp => ?_, fun G' ⟨es, hE, he, hF, hBi⟩ => ?_⟩
    · obtain ⟨hi, rfl⟩ := rng0_item hx
      have hi : i < nm.length - 1 := hi
      refine n_name (i := 12) sc_law.nd fun s1 H1 C1 cl1 fp1 => ts_nil (ifT fun s2 H2 C2 cl2 fp2 => ?_)
      refine q_tup (a_cons (qv 12 rfl (a_cons (q_dget (u64 hr) (qv 6 rfl (qv 12 rfl ⟨kws, _, .int (atN nm.length rev i : Nat), .inl (hF _ _ hFd), keyW_nat _, ?_, a_cons (q_add (q_int (q_cal CT (hr.mono (by decide)) (a_cons (qv 3 rfl (a_cons (q_int (a_nil ⟨bx, 899999 - i, 9, rfl, hBi.less (by omega), by decide, by decide, fun z3 G4 z0 z1 off4 hB4 => addI ?_⟩))))))))⟩))))))
      · rw [DI3.get]
        unfold atI'
        rw [if_pos hi]
      refine a_cons (q_tup (a_cons (q_str (a_nil (a_nil ?_)))))
      have he4 : G4 eA = some (.lst (eW es)) := by rw [off4 eA (by rw [List.mem_singleton]; exact hbe.symm)]; exact he
      refine ⟨eW es, he4, ?_, es ++ [⟨i, atN nm.length rev i, 1 + z3, told⟩], hE.snoc (by omega) (by omega), ?_, sub_aup (sub_upN hF (.off off4) hFb) hFe, (hB4.old hbe).less (by omega)⟩
      · rw [show (eW es).length = es.length from List.length_map _, hE.len]; omega
      · rw [aup_same]
        unfold eW
        rw [List.map_append]; rfl
    rw [rngW_length] at hE hBi
    refine s_cons (s_expr (q_append (qv 10 rfl ⟨eA, _, rfl, he, a_cons (q_tup (a_cons (q_sub (q_len B.len (a_cons (qv 5 rfl (a_nil (fLen_ls (xs := tW (tsN nm wd z rev)) rfl (q_int (subI (a_cons (q_sub (qv 9 rfl (q_int (subI (a_cons (q_int (a_cons (q_tup (a_cons (q_str (a_nil (a_nil (a_nil ⟨_, he, ?_, ?_⟩))))))))))))))))))))))))⟩)))
    · rw [show (eW es).length = es.length from List.length_map _, hE.len]; omega
    have EA := hE.fin two
    obtain ⟨es', hes'⟩ : ∃ es', es ++ [⟨2 * nm.length - 1, nm.length - 1, 1, told⟩] = es' := ⟨_, rfl⟩
    have eE : eW es ++ [W.tup [.int (((tW (tsN nm wd z rev)).length : Int) - 1), .int ((nm.length : Int) - 1), .int 1, .tup [.str "told"]]] = eW es' := by
      rw [← hes', tW_length, tl]
      unfold eW
      rw [List.map_append, show ((2 * nm.length : Nat) : Int) - 1 = ((2 * nm.length - 1 : Nat) : Int) by omega, show (nm.length : Int) - 1 = ((nm.length - 1 : Nat) : Int) by omega]; rfl
    rw [eE]
    rw [hes'] at EA
    have he5 : (aup G' eA (.lst (eW es'))) eA = some (.lst (eW es')) := aup_same
    have hF5 : Sub Fc (aup G' eA (.lst (eW es'))) := sub_aup hF hFe
    have hB5 := (hBi.old (o := .lst (eW es')) hbe).less (m := 899000) (by omega)
    generalize aup G' eA (.lst (eW es')) = G5 at he5 hF5 hB5 ⊢
    clear he hF hBi hE hes' eE
    -- leads
    refine s_cons (s_set (i := 11) sc_law.nd (q_lrg1 B.range B.list (q_len B.len (a_cons (qv 5 rfl (a_nil (fLen_ls (xs := tW (tsN nm wd z rev)) rfl ⟨?_, fun lA hlA => ?_⟩)))))))
    · rw [tW_length]; exact RgOk.of_le (by omega) (by omega) (by omega) (by omega)
    rw [tW_length, tl, show ((2 * nm.length : Nat) : Int).toNat = 2 * nm.length by omega, rng0N]
    have hFl : Fc lA = none := hF5.free hlA
    have hbl : bx ≠ lA := Upto.boxN hB5 hlA
    have hel : lA ≠ eA := (ane_none he5 hlA).symm
    have he6 := aup_new (u := .lst ((List.range (2 * nm.length)).map fun (j : Nat) => W.int j)) hlA he5
    have hl6 : (aup G5 lA (.lst ((List.range (2 * nm.length)).map fun (j : Nat) => W.int j))) lA = some (.lst (nW (lsS nm.length rev 0))) := by rw [lsS_0]; exact aup_same
    have hF6 : Sub Fc (aup G5 lA (.lst ((List.range (2 * nm.length)).map fun (j : Nat) => W.int j))) := sub_aup hF5 hFl
    have hB6 := hB5.new (o := .lst ((List.range (2 * nm.length)).map fun (j : Nat) => W.int j)) hlA
    generalize aup G5 lA (.lst ((List.range (2 * nm.length)).map fun (j : Nat) => W.int j)) = G6 at he6 hl6 hF6 hB6 ⊢
    clear he5 hF5 hB5 hlA
    refine s_cons (s_for (L2.passes_of rfl) rfl (i_range1 rfl B.range (q_sub (qv 9 rfl (q_int (subI ?_))))))
    refine ⟨by omega, by omega, ?_⟩
    rw [show ((nm.length : Int) - 1).toNat = nm.length - 1 by omega]
    refine ⟨fun t ρ' G' => ∃ v12, ρ' = [some (.ref a), some (.ref c), some (.int k), some (.ref bx), some (caW d nm wd z rev), some (.lst (tW (tsN nm wd z rev))), some (.ref d), some (.str wd), some (.int z), some (.int nm.length), some (.ref eA), some (.ref lA), v12, none] ∧ G' eA = some (.lst (eW es')) ∧ G' lA = some (.lst (nW (lsS nm.length rev t))) ∧ Sub Fc G' ∧ BoxAt G' bx 899000, ⟨none, rfl, he6, hl6, hF6, hB6⟩, fun _ _ _ _ _ => trivial, fun t x ρ' G' hx ⟨v12, e1, he, hl, hF, hBi⟩ => ?_, fun ρ' G' ⟨v12, e1, he, hl, hF, hBi⟩ => ?_⟩
    · obtain ⟨ht, rfl⟩ := rng0_item hx
      subst e1
      have at1 := atN_lt (rev := rev) ht
      refine g_name (i := 12) sc_law.nd ?_
      refine s_cons (s_asg (qv 12 rfl (g_ix (qv 11 rfl (q_dget (u64 hr) (qv 6 rfl (qv 12 rfl ⟨kws, _, .int (atN nm.length rev t : Nat), .inl (hF _ _ hFd), keyW_nat _, ?_, ⟨_, atN nm.length rev t, hl, ?_, ?_⟩⟩)))))))
      · rw [DI3.get]
        unfold atI'
        rw [if_pos ht]
      · rw [nW_length, lsS_len]; exact ixN_nat (by omega)
      rw [nW_set, lsS_succ ht]
      exact s_nil ⟨_, rfl, aup_old hel.symm he, aup_same, sub_aup hF hFl, hBi.old hbl⟩
    subst e1
    rw [rngW_length] at hl
    refine s_cons (s_asg (q_sub (qv 9 rfl (q_int (subI (g_ix (qv 11 rfl (q_negC ⟨_, 2 * nm.length - 1, hl, ?_, ?_⟩))))))))
    · rw [nW_length, lsS_len]; exact ixN_last (by omega)
    rw [show (nm.length : Int) - 1 = ((nm.length - 1 : Nat) : Int) by omega, nW_set, lsS_end two]
    have he7 := aup_old (u := .lst (nW (lsN nm.length rev))) hel.symm he
    have hl7 : (aup G' lA (.lst (nW (lsN nm.length rev)))) lA = some (.lst (nW (lsN nm.length rev))) := aup_same
    have hF7 : Sub Fc (aup G' lA (.lst (nW (lsN nm.length rev)))) := sub_aup hF hFl
    have hB7 := hBi.old (o := .lst (nW (lsN nm.length rev))) hbl
    generalize aup G' lA (.lst (nW (lsN nm.length rev))) = G7 at he7 hl7 hF7 hB7 ⊢
    clear he hl hF hBi he6 hl6 hF6 hB6
    refine s_frz 10 rfl he7 ?_
    refine s_frz 11 rfl (show adel G7 eA lA = _ by rw [adel_ne hel]; exact hl7) ?_
    have hF8 : Sub Fc (adel (adel G7 eA) lA) := sub_ad (sub_ad hF7 hFe) hFl
    have hB8 := (hB7.dele hbe).dele hbl
    generalize adel (adel G7 eA) lA = G8 at hF8 hB8 ⊢
    clear he7 hl7 hF7 hB7
    refine SQ.st [some (.ref a), some (.ref c), some (.int k), some (.ref bx), some (caW d nm wd z rev), some (.lst (tW (tsN nm wd z rev))), some (.ref d), some (.str wd), some (.int z), some (.int nm.length), some (.lst (eW es')), some (.lst (nW (lsN nm.length rev))), v12, none] rfl ?_
    -- kept
    have RP := EA.rp R
    refine s_cons (s_set (i := 13) sc_law.nd (q_repr hG u70 B.repr (a_cons (q_lstV (a_cons (qv 5 rfl (a_cons (qv 10 rfl (a_cons (qv 11 rfl (a_nil (a_nil ⟨_, rfl, RP, ?_⟩))))))))))))
    obtain ⟨kept, hkept⟩ : ∃ kept, rpW (.lst [.lst (tW (tsN nm wd z rev)), .lst (eW es'), .lst (nW (lsN nm.length rev))]) = kept := ⟨_, rfl⟩
    rw [hkept]
    have ends' : ∀ e ∈ es', e.a < (tsN nm wd z rev).length ∧ e.b < (tsN nm wd z rev).length := by rw [tl]; exact EA.lt R
    refine s_cons (s_if (b_not (b_val (q_cal CSa hr4 (a_cons (q_cal CCl hr3 (a_cons (qv 5 rfl (a_cons (qv 10 rfl (a_nil ⟨_, _, tsN nm wd z rev, es', rfl, rfl, rfl, T, ends', fun p1 hp1 => ?_⟩)))))))))))
    rw [EA.closed R]
    refine a_cons (qv 11 rfl (a_nil ⟨_, _, rfl, SameW.up (SameW.up (same_ls (d := 0) (xs := nW (lsN nm.length rev)) (by exact aup_same) rfl (by rw [nW_length]; omega) fun x hx => ?_)), ?_⟩))
    · unfold nW at hx
      obtain ⟨j, _, rfl⟩ := List.mem_map.mp hx
      exact same_int _ _ _
    refine ifB_F rfl (s_nil ?_)
    refine SQ.less (Sub.new hp1) ?_
    clear hp1
    -- the four
    refine s_cons (s_if (WQ.test (w_or (b_not (b_val (q_cal CCr (hr.mono (by decide)) (a_cons (qv 3 rfl (a_cons (qv 4 rfl (a_cons (qv 11 rfl (a_nil ⟨bx, d, _, kws, nm, wd, z, rev, 800000, rfl, CI _ hF8, hB8.less (by omega), dbx, (fun z => by cases z), fun G9 up9 hB9 => ?_⟩)))))))))))))
    have hF9 := sub_upN hF8 up9 hFb
    refine ifB_F rfl (w_or1 (b_not (b_val (q_cal CSr (hr.mono (by decide)) (a_cons (qv 4 rfl (a_cons (qv 11 rfl (a_nil ⟨d, _, kws, nm, wd, z, rev, rfl, CI _ hF9, ifB_F rfl (s_nil ?_)⟩)))))))))
    refine s_cons (s_if (WQ.test (w_or (b_not (b_val (q_cal CNr (hr.mono (by decide)) (a_cons (qv 3 rfl (a_cons (qv 4 rfl (a_cons (qv 11 rfl (a_nil ⟨bx, d, _, kws, nm, wd, z, rev, 700000, rfl, CI _ hF9, hB9.less (by omega), dbx, (fun z => by cases z), fun G10 up10 hB10 => ?_⟩)))))))))))))
    have hF10 := sub_upN hF9 up10 hFb
    refine ifB_F rfl (w_or1 (b_not (b_val (q_cal CAr (hr.mono (by decide)) (a_cons (qv 3 rfl (a_nil ⟨bx, 600000, rfl, hB10.less (by omega), fun G11 up11 hB11 => ?_⟩)))))))
    have hF11 := sub_upN hF10 up11 hFb
    refine ifB_F rfl (s_nil ?_)
    refine s_cons (s_if (b_ne (u64 hr) (q_repr hG u70 B.repr (a_cons (q_lstV (a_cons (qv 5 rfl (a_cons (qv 10 rfl (a_cons (qv 11 rfl (a_nil (a_nil ⟨_, rfl, RP, ?_⟩)))))))))))))
    rw [hkept]
    refine qv 13 rfl (ifB_F (by show (!decide (kept = kept)) = false; rw [decide_eq_true rfl]; rfl) (s_nil (s_nil ⟨rfl, rfl, rfl, hSF.trans hF11⟩)))
  · exact s_cons (s_ret (q_bl ⟨G, S0.trans SG, kk⟩))
end
theorem law_low {c : Ct} {H : Hp} {a : Addr} {ns : List Int} (hn : ns.length ≤ 63) (hO : Only H) (hS : SqL c.K H a (ns.map V.int)) : low c (spLaw c) [.ref a] H (fun v _ => v = .bl true) fun _ _ _ => False := by
  have fin : ∀ G : AH, RG c H G → Scr c G a ns → low c (spLaw c) [.ref a] H (fun v _ => v = .bl true) fun _ _ _ => False := fun G g s =>
    ⟨[.ref a], G, fun w _ => w = .bl true, noE, .cons (show RV H (.ref a) (.ref a) from rfl) RVs.nil, g, ⟨a, ns, rfl, s, hn, rfl⟩, fun v H' ⟨w, G', _, r, _, e⟩ => by subst e; exact r, fun _ _ _ ⟨_, _, _, z⟩ => z⟩
  rcases hS with h | h
  · refine fin (fun b => if b = a then some (.fro (ns.map W.int)) else none) (fun b o e => ?_) (.inl (if_pos rfl))
    have e : (if b = a then some (AO.fro (ns.map W.int)) else none) = some o := e
    by_cases q : b = a
    · subst q
      rw [if_pos rfl] at e
      cases e
      exact ⟨_, h, RVs.ints ns⟩
    · rw [if_neg q] at e; cases e
  · exact fin (fun _ => none) (fun _ _ e => by cases e) (.inr fun _ => .inr h)
end SW
namespace SW
open PySem PySem.Spec L2 AL
set_option maxHeartbeats 0 in
theorem all_mk {l : PySem.W.OpenLaw} {w : World} {K : PySem.W.Frag} {h : Heap} {mg : Str → Option Value} {fa f0 f1 f2 f3 f4 f5 f6 f7 f8 f9 f10 f11 f12 f13 f14 f15 f16 f17 f18 f19 f20 f21 f22 f23 f24 f25 f26 f27 f28 f29 f30 f31 f32 f33 f34 f35 f36 f37 f38 f39 f40 ATooBig AKind ASigns ANames ASameError ANoTree ANoRule ANoRow AFull AApart ATooWide : Addr} (X : K.In h) (G : h.Ns mainGlobals mg) (hfa : mg "law" = some (.ref fa))
    {od0 an0 od1 an1 od2 an2 od3 an3 od4 an4 od5 an5 od6 an6 od7 an7 od8 an8 od9 an9 od10 an10 od11 an11 od12 an12 od13 an13 od14 an14 od15 an15 od16 an16 od17 an17 od18 an18 od19 an19 od20 an20 od21 an21 od22 an22 od23 an23 od24 an24 od25 an25 od26 an26 od27 an27 od28 an28 od29 an29 od30 an30 od31 an31 od32 an32 od33 an33 od34 an34 od35 an35 od36 an36 od37 an37 od38 an38 od39 an39 od40 an40 : Option Addr} {sl0 sl1 sl2 sl3 sl4 sl5 sl6 sl7 sl8 sl9 sl10 sl11 sl12 sl13 sl14 sl15 sl16 sl17 sl18 sl19 sl20 sl21 sl22 sl23 sl24 sl25 sl26 sl27 sl28 sl29 sl30 sl31 sl32 sl33 sl34 sl35 sl36 sl37 sl38 sl39 sl40 : Array (Option Value)} {oc0 kV0 dc0 pm0 cd0 ct0 oc1 kV1 dc1 pm1 cd1 ct1 oc2 kV2 dc2 pm2 cd2 ct2 oc3 kV3 dc3 pm3 cd3 ct3 oc4 kV4 dc4 pm4 cd4 ct4 oc5 kV5 dc5 pm5 cd5 ct5 oc6 kV6 dc6 pm6 cd6 ct6 oc7 kV7 dc7 pm7 cd7 ct7 oc8 kV8 dc8 pm8 cd8 ct8 oc9 kV9 dc9 pm9 cd9 ct9 oc10 kV10 dc10 pm10 cd10 ct10 oc11 kV11 dc11 pm11 cd11 ct11 oc12 kV12 dc12 pm12 cd12 ct12 oc13 kV13 dc13 pm13 cd13 ct13 oc14 kV14 dc14 pm14 cd14 ct14 oc15 kV15 dc15 pm15 cd15 ct15 oc16 kV16 dc16 pm16 cd16 ct16 oc17 kV17 dc17 pm17 cd17 ct17 oc18 kV18 dc18 pm18 cd18 ct18 oc19 kV19 dc19 pm19 cd19 ct19 oc20 kV20 dc20 pm20 cd20 ct20 oc21 kV21 dc21 pm21 cd21 ct21 oc22 kV22 dc22 pm22 cd22 ct22 oc23 kV23 dc23 pm23 cd23 ct23 oc24 kV24 dc24 pm24 cd24 ct24 oc25 kV25 dc25 pm25 cd25 ct25 oc26 kV26 dc26 pm26 cd26 ct26 oc27 kV27 dc27 pm27 cd27 ct27 oc28 kV28 dc28 pm28 cd28 ct28 oc29 kV29 dc29 pm29 cd29 ct29 oc30 kV30 dc30 pm30 cd30 ct30 oc31 kV31 dc31 pm31 cd31 ct31 oc32 kV32 dc32 pm32 cd32 ct32 oc33 kV33 dc33 pm33 cd33 ct33 oc34 kV34 dc34 pm34 cd34 ct34 oc35 kV35 dc35 pm35 cd35 ct35 oc36 kV36 dc36 pm36 cd36 ct36 oc37 kV37 dc37 pm37 cd37 ct37 oc38 kV38 dc38 pm38 cd38 ct38 oc39 kV39 dc39 pm39 cd39 ct39 oc40 kV40 dc40 pm40 cd40 ct40 : Value}
    (gKind : PySem.W.nsIn K mainGlobals "Kind" = some (some (.ref AKind)))
    (gSigns : PySem.W.nsIn K mainGlobals "Signs" = some (some (.ref ASigns)))
    (gNames : PySem.W.nsIn K mainGlobals "Names" = some (some (.ref ANames)))
    (gSameError : PySem.W.nsIn K mainGlobals "SameError" = some (some (.ref ASameError)))
    (gNoTree : PySem.W.nsIn K mainGlobals "NoTree" = some (some (.ref ANoTree)))
    (gNoRule : PySem.W.nsIn K mainGlobals "NoRule" = some (some (.ref ANoRule)))
    (gNoRow : PySem.W.nsIn K mainGlobals "NoRow" = some (some (.ref ANoRow)))
    (gFull : PySem.W.nsIn K mainGlobals "Full" = some (some (.ref AFull)))
    (gApart : PySem.W.nsIn K mainGlobals "Apart" = some (some (.ref AApart)))
    (gTooWide : PySem.W.nsIn K mainGlobals "TooWide" = some (some (.ref ATooWide)))
    (a0 : PySem.W.nsIn K mainGlobals "cost_of" = some (some (.ref f0))) (l0 : K.lookup f0 = some ⟨oc0, od0, .func (PySem.W.fnOf "cost_of" "cost_of" (defArgs sCost) (defBody sCost) (defScope sCost) .none kV0 dc0 pm0 an0 cd0 ct0), sl0⟩) (c0 : PySem.W.codeIn K cd0 "cost_of" = true) (k0 : PySem.W.keepIn K (.ref f0) = true)
    (a1 : PySem.W.nsIn K mainGlobals "arms_of" = some (some (.ref f1))) (l1 : K.lookup f1 = some ⟨oc1, od1, .func (PySem.W.fnOf "arms_of" "arms_of" (defArgs sArms) (defBody sArms) (defScope sArms) .none kV1 dc1 pm1 an1 cd1 ct1), sl1⟩) (c1 : PySem.W.codeIn K cd1 "arms_of" = true) (k1 : PySem.W.keepIn K (.ref f1) = true)
    (a2 : PySem.W.nsIn K mainGlobals "price_by" = some (some (.ref f2))) (l2 : K.lookup f2 = some ⟨oc2, od2, .func (PySem.W.fnOf "price_by" "price_by" (defArgs sPb) (defBody sPb) (defScope sPb) .none kV2 dc2 pm2 an2 cd2 ct2), sl2⟩) (c2 : PySem.W.codeIn K cd2 "price_by" = true) (k2 : PySem.W.keepIn K (.ref f2) = true)
    (a3 : PySem.W.nsIn K mainGlobals "best_prices" = some (some (.ref f3))) (l3 : K.lookup f3 = some ⟨oc3, od3, .func (PySem.W.fnOf "best_prices" "best_prices" (defArgs sBp) (defBody sBp) (defScope sBp) .none kV3 dc3 pm3 an3 cd3 ct3), sl3⟩) (c3 : PySem.W.codeIn K cd3 "best_prices" = true) (k3 : PySem.W.keepIn K (.ref f3) = true)
    (a4 : PySem.W.nsIn K mainGlobals "prices" = some (some (.ref f4))) (l4 : K.lookup f4 = some ⟨oc4, od4, .func (PySem.W.fnOf "prices" "prices" (defArgs sPr) (defBody sPr) (defScope sPr) .none kV4 dc4 pm4 an4 cd4 ct4), sl4⟩) (c4 : PySem.W.codeIn K cd4 "prices" = true) (k4 : PySem.W.keepIn K (.ref f4) = true)
    (a5 : PySem.W.nsIn K mainGlobals "needed_leads" = some (some (.ref f5))) (l5 : K.lookup f5 = some ⟨oc5, od5, .func (PySem.W.fnOf "needed_leads" "needed_leads" (defArgs sNl) (defBody sNl) (defScope sNl) .none kV5 dc5 pm5 an5 cd5 ct5), sl5⟩) (c5 : PySem.W.codeIn K cd5 "needed_leads" = true) (k5 : PySem.W.keepIn K (.ref f5) = true)
    (a6 : PySem.W.nsIn K mainGlobals "rows_by" = some (some (.ref f6))) (l6 : K.lookup f6 = some ⟨oc6, od6, .func (PySem.W.fnOf "rows_by" "rows_by" (defArgs sRb) (defBody sRb) (defScope sRb) .none kV6 dc6 pm6 an6 cd6 ct6), sl6⟩) (c6 : PySem.W.codeIn K cd6 "rows_by" = true) (k6 : PySem.W.keepIn K (.ref f6) = true)
    (a7 : PySem.W.nsIn K mainGlobals "cheapest" = some (some (.ref f7))) (l7 : K.lookup f7 = some ⟨oc7, od7, .func (PySem.W.fnOf "cheapest" "cheapest" (defArgs sCh) (defBody sCh) (defScope sCh) .none kV7 dc7 pm7 an7 cd7 ct7), sl7⟩) (c7 : PySem.W.codeIn K cd7 "cheapest" = true) (k7 : PySem.W.keepIn K (.ref f7) = true)
    (a8 : PySem.W.nsIn K mainGlobals "sizes_by" = some (some (.ref f8))) (l8 : K.lookup f8 = some ⟨oc8, od8, .func (PySem.W.fnOf "sizes_by" "sizes_by" (defArgs sSz) (defBody sSz) (defScope sSz) .none kV8 dc8 pm8 an8 cd8 ct8), sl8⟩) (c8 : PySem.W.codeIn K cd8 "sizes_by" = true) (k8 : PySem.W.keepIn K (.ref f8) = true)
    (a9 : PySem.W.nsIn K mainGlobals "taken" = some (some (.ref f9))) (l9 : K.lookup f9 = some ⟨oc9, od9, .func (PySem.W.fnOf "taken" "taken" (defArgs sTk) (defBody sTk) (defScope sTk) .none kV9 dc9 pm9 an9 cd9 ct9), sl9⟩) (c9 : PySem.W.codeIn K cd9 "taken" = true) (k9 : PySem.W.keepIn K (.ref f9) = true)
    (a10 : PySem.W.nsIn K mainGlobals "mark" = some (some (.ref f10))) (l10 : K.lookup f10 = some ⟨oc10, od10, .func (PySem.W.fnOf "mark" "mark" (defArgs sMark) (defBody sMark) (defScope sMark) .none kV10 dc10 pm10 an10 cd10 ct10), sl10⟩) (c10 : PySem.W.codeIn K cd10 "mark" = true) (k10 : PySem.W.keepIn K (.ref f10) = true)
    (a11 : PySem.W.nsIn K mainGlobals "unite" = some (some (.ref f11))) (l11 : K.lookup f11 = some ⟨oc11, od11, .func (PySem.W.fnOf "unite" "unite" (defArgs sUnite) (defBody sUnite) (defScope sUnite) .none kV11 dc11 pm11 an11 cd11 ct11), sl11⟩) (c11 : PySem.W.codeIn K cd11 "unite" = true) (k11 : PySem.W.keepIn K (.ref f11) = true)
    (a12 : PySem.W.nsIn K mainGlobals "unite_like" = some (some (.ref f12))) (l12 : K.lookup f12 = some ⟨oc12, od12, .func (PySem.W.fnOf "unite_like" "unite_like" (defArgs sUl) (defBody sUl) (defScope sUl) .none kV12 dc12 pm12 an12 cd12 ct12), sl12⟩) (c12 : PySem.W.codeIn K cd12 "unite_like" = true) (k12 : PySem.W.keepIn K (.ref f12) = true)
    (a13 : PySem.W.nsIn K mainGlobals "closed" = some (some (.ref f13))) (l13 : K.lookup f13 = some ⟨oc13, od13, .func (PySem.W.fnOf "closed" "closed" (defArgs sClosed) (defBody sClosed) (defScope sClosed) .none kV13 dc13 pm13 an13 cd13 ct13), sl13⟩) (c13 : PySem.W.codeIn K cd13 "closed" = true) (k13 : PySem.W.keepIn K (.ref f13) = true)
    (a14 : PySem.W.findIn K (.ref AKind) "__init__" = some (some (.ref f14))) (i14 : PySem.W.isFn K (.ref f14) = true) (l14 : K.lookup f14 = some ⟨oc14, od14, .func (PySem.W.fnOf "__init__" "Kind.__init__" (defArgs sKi) (defBody sKi) (defScope sKi) .none kV14 dc14 pm14 an14 cd14 ct14), sl14⟩) (c14 : PySem.W.codeIn K cd14 "Kind.__init__" = true) (k14 : PySem.W.keepIn K (.ref f14) = true)
    (a15 : PySem.W.nsIn K mainGlobals "sign_bit" = some (some (.ref f15))) (l15 : K.lookup f15 = some ⟨oc15, od15, .func (PySem.W.fnOf "sign_bit" "sign_bit" (defArgs sSb0) (defBody sSb0) (defScope sSb0) .none kV15 dc15 pm15 an15 cd15 ct15), sl15⟩) (c15 : PySem.W.codeIn K cd15 "sign_bit" = true) (k15 : PySem.W.keepIn K (.ref f15) = true)
    (a16 : PySem.W.nsIn K mainGlobals "opposite" = some (some (.ref f16))) (l16 : K.lookup f16 = some ⟨oc16, od16, .func (PySem.W.fnOf "opposite" "opposite" (defArgs sOpp) (defBody sOpp) (defScope sOpp) .none kV16 dc16 pm16 an16 cd16 ct16), sl16⟩) (c16 : PySem.W.codeIn K cd16 "opposite" = true) (k16 : PySem.W.keepIn K (.ref f16) = true)
    (a17 : PySem.W.findIn K (.ref ASigns) "top" = some (some (.ref f17))) (i17 : PySem.W.isFn K (.ref f17) = true) (l17 : K.lookup f17 = some ⟨oc17, od17, .func (PySem.W.fnOf "top" "Signs.top" (defArgs sSt) (defBody sSt) (defScope sSt) .none kV17 dc17 pm17 an17 cd17 ct17), sl17⟩) (c17 : PySem.W.codeIn K cd17 "Signs.top" = true) (k17 : PySem.W.keepIn K (.ref f17) = true)
    (a18 : PySem.W.findIn K (.ref ASigns) "worth" = some (some (.ref f18))) (i18 : PySem.W.isFn K (.ref f18) = true) (l18 : K.lookup f18 = some ⟨oc18, od18, .func (PySem.W.fnOf "worth" "Signs.worth" (defArgs sSw) (defBody sSw) (defScope sSw) .none kV18 dc18 pm18 an18 cd18 ct18), sl18⟩) (c18 : PySem.W.codeIn K cd18 "Signs.worth" = true) (k18 : PySem.W.keepIn K (.ref f18) = true)
    (a19 : PySem.W.findIn K (.ref ANames) "__init__" = some (some (.ref f19))) (i19 : PySem.W.isFn K (.ref f19) = true) (l19 : K.lookup f19 = some ⟨oc19, od19, .func (PySem.W.fnOf "__init__" "Names.__init__" (defArgs sNi) (defBody sNi) (defScope sNi) .none kV19 dc19 pm19 an19 cd19 ct19), sl19⟩) (c19 : PySem.W.codeIn K cd19 "Names.__init__" = true) (k19 : PySem.W.keepIn K (.ref f19) = true)
    (a20 : PySem.W.findIn K (.ref ANames) "top" = some (some (.ref f20))) (i20 : PySem.W.isFn K (.ref f20) = true) (l20 : K.lookup f20 = some ⟨oc20, od20, .func (PySem.W.fnOf "top" "Names.top" (defArgs sNt) (defBody sNt) (defScope sNt) .none kV20 dc20 pm20 an20 cd20 ct20), sl20⟩) (c20 : PySem.W.codeIn K cd20 "Names.top" = true) (k20 : PySem.W.keepIn K (.ref f20) = true)
    (a21 : PySem.W.findIn K (.ref ANames) "bit_of" = some (some (.ref f21))) (i21 : PySem.W.isFn K (.ref f21) = true) (l21 : K.lookup f21 = some ⟨oc21, od21, .func (PySem.W.fnOf "bit_of" "Names.bit_of" (defArgs sBo) (defBody sBo) (defScope sBo) .none kV21 dc21 pm21 an21 cd21 ct21), sl21⟩) (c21 : PySem.W.codeIn K cd21 "Names.bit_of" = true) (k21 : PySem.W.keepIn K (.ref f21) = true)
    (a22 : PySem.W.findIn K (.ref ANames) "worth" = some (some (.ref f22))) (i22 : PySem.W.isFn K (.ref f22) = true) (l22 : K.lookup f22 = some ⟨oc22, od22, .func (PySem.W.fnOf "worth" "Names.worth" (defArgs sNw) (defBody sNw) (defScope sNw) .none kV22 dc22 pm22 an22 cd22 ct22), sl22⟩) (c22 : PySem.W.codeIn K cd22 "Names.worth" = true) (k22 : PySem.W.keepIn K (.ref f22) = true)
    (a23 : PySem.W.findIn K (.ref ANames) "free" = some (some (.ref f23))) (i23 : PySem.W.isFn K (.ref f23) = true) (l23 : K.lookup f23 = some ⟨oc23, od23, .func (PySem.W.fnOf "free" "Names.free" (defArgs sFr0) (defBody sFr0) (defScope sFr0) .none kV23 dc23 pm23 an23 cd23 ct23), sl23⟩) (c23 : PySem.W.codeIn K cd23 "Names.free" = true) (k23 : PySem.W.keepIn K (.ref f23) = true)
    (a24 : PySem.W.nsIn K mainGlobals "spread" = some (some (.ref f24))) (l24 : K.lookup f24 = some ⟨oc24, od24, .func (PySem.W.fnOf "spread" "spread" (defArgs sSpr) (defBody sSpr) (defScope sSpr) .none kV24 dc24 pm24 an24 cd24 ct24), sl24⟩) (c24 : PySem.W.codeIn K cd24 "spread" = true) (k24 : PySem.W.keepIn K (.ref f24) = true)
    (a25 : PySem.W.nsIn K mainGlobals "learned" = some (some (.ref f25))) (l25 : K.lookup f25 = some ⟨oc25, od25, .func (PySem.W.fnOf "learned" "learned" (defArgs sLe) (defBody sLe) (defScope sLe) .none kV25 dc25 pm25 an25 cd25 ct25), sl25⟩) (c25 : PySem.W.codeIn K cd25 "learned" = true) (k25 : PySem.W.keepIn K (.ref f25) = true)
    (a26 : PySem.W.nsIn K mainGlobals "numbers" = some (some (.ref f26))) (l26 : K.lookup f26 = some ⟨oc26, od26, .func (PySem.W.fnOf "numbers" "numbers" (defArgs sNum) (defBody sNum) (defScope sNum) .none kV26 dc26 pm26 an26 cd26 ct26), sl26⟩) (c26 : PySem.W.codeIn K cd26 "numbers" = true) (k26 : PySem.W.keepIn K (.ref f26) = true)
    (a27 : PySem.W.nsIn K mainGlobals "_law_box" = some (some (.ref f27))) (l27 : K.lookup f27 = some ⟨oc27, od27, .func (PySem.W.fnOf "_law_box" "_law_box" (defArgs sBox) (defBody sBox) (defScope sBox) .none kV27 dc27 pm27 an27 cd27 ct27), sl27⟩) (c27 : PySem.W.codeIn K cd27 "_law_box" = true) (k27 : PySem.W.keepIn K (.ref f27) = true)
    (a28 : PySem.W.nsIn K mainGlobals "_law_take" = some (some (.ref f28))) (l28 : K.lookup f28 = some ⟨oc28, od28, .func (PySem.W.fnOf "_law_take" "_law_take" (defArgs sTake) (defBody sTake) (defScope sTake) .none kV28 dc28 pm28 an28 cd28 ct28), sl28⟩) (c28 : PySem.W.codeIn K cd28 "_law_take" = true) (k28 : PySem.W.keepIn K (.ref f28) = true)
    (a29 : PySem.W.nsIn K mainGlobals "_law_folded" = some (some (.ref f29))) (l29 : K.lookup f29 = some ⟨oc29, od29, .func (PySem.W.fnOf "_law_folded" "_law_folded" (defArgs sFold) (defBody sFold) (defScope sFold) .none kV29 dc29 pm29 an29 cd29 ct29), sl29⟩) (c29 : PySem.W.codeIn K cd29 "_law_folded" = true) (k29 : PySem.W.keepIn K (.ref f29) = true)
    (a30 : PySem.W.nsIn K mainGlobals "_law_same" = some (some (.ref f30))) (l30 : K.lookup f30 = some ⟨oc30, od30, .func (PySem.W.fnOf "_law_same" "_law_same" (defArgs sSame) (defBody sSame) (defScope sSame) .none kV30 dc30 pm30 an30 cd30 ct30), sl30⟩) (c30 : PySem.W.codeIn K cd30 "_law_same" = true) (k30 : PySem.W.keepIn K (.ref f30) = true)
    (a31 : PySem.W.nsIn K mainGlobals "_law_word" = some (some (.ref f31))) (l31 : K.lookup f31 = some ⟨oc31, od31, .func (PySem.W.fnOf "_law_word" "_law_word" (defArgs sWd) (defBody sWd) (defScope sWd) .none kV31 dc31 pm31 an31 cd31 ct31), sl31⟩) (c31 : PySem.W.codeIn K cd31 "_law_word" = true) (k31 : PySem.W.keepIn K (.ref f31) = true)
    (a32 : PySem.W.nsIn K mainGlobals "_law_words" = some (some (.ref f32))) (l32 : K.lookup f32 = some ⟨oc32, od32, .func (PySem.W.fnOf "_law_words" "_law_words" (defArgs sWs) (defBody sWs) (defScope sWs) .none kV32 dc32 pm32 an32 cd32 ct32), sl32⟩) (c32 : PySem.W.codeIn K cd32 "_law_words" = true) (k32 : PySem.W.keepIn K (.ref f32) = true)
    (a33 : PySem.W.nsIn K mainGlobals "_law_case" = some (some (.ref f33))) (l33 : K.lookup f33 = some ⟨oc33, od33, .func (PySem.W.fnOf "_law_case" "_law_case" (defArgs sCase) (defBody sCase) (defScope sCase) .none kV33 dc33 pm33 an33 cd33 ct33), sl33⟩) (c33 : PySem.W.codeIn K cd33 "_law_case" = true) (k33 : PySem.W.keepIn K (.ref f33) = true)
    (a34 : PySem.W.nsIn K mainGlobals "_law_tree" = some (some (.ref f34))) (l34 : K.lookup f34 = some ⟨oc34, od34, .func (PySem.W.fnOf "_law_tree" "_law_tree" (defArgs sLt) (defBody sLt) (defScope sLt) .none kV34 dc34 pm34 an34 cd34 ct34), sl34⟩) (c34 : PySem.W.codeIn K cd34 "_law_tree" = true) (k34 : PySem.W.keepIn K (.ref f34) = true)
    (a35 : PySem.W.nsIn K mainGlobals "_law_big" = some (some (.ref f35))) (l35 : K.lookup f35 = some ⟨oc35, od35, .func (PySem.W.fnOf "_law_big" "_law_big" (defArgs sLb) (defBody sLb) (defScope sLb) .none kV35 dc35 pm35 an35 cd35 ct35), sl35⟩) (c35 : PySem.W.codeIn K cd35 "_law_big" = true) (k35 : PySem.W.keepIn K (.ref f35) = true)
    (a36 : PySem.W.nsIn K mainGlobals "_law_cheap_right" = some (some (.ref f36))) (l36 : K.lookup f36 = some ⟨oc36, od36, .func (PySem.W.fnOf "_law_cheap_right" "_law_cheap_right" (defArgs sCr) (defBody sCr) (defScope sCr) .none kV36 dc36 pm36 an36 cd36 ct36), sl36⟩) (c36 : PySem.W.codeIn K cd36 "_law_cheap_right" = true) (k36 : PySem.W.keepIn K (.ref f36) = true)
    (a37 : PySem.W.nsIn K mainGlobals "_law_signs_right" = some (some (.ref f37))) (l37 : K.lookup f37 = some ⟨oc37, od37, .func (PySem.W.fnOf "_law_signs_right" "_law_signs_right" (defArgs sSr) (defBody sSr) (defScope sSr) .none kV37 dc37 pm37 an37 cd37 ct37), sl37⟩) (c37 : PySem.W.codeIn K cd37 "_law_signs_right" = true) (k37 : PySem.W.keepIn K (.ref f37) = true)
    (a38 : PySem.W.nsIn K mainGlobals "_law_names_right" = some (some (.ref f38))) (l38 : K.lookup f38 = some ⟨oc38, od38, .func (PySem.W.fnOf "_law_names_right" "_law_names_right" (defArgs sNr) (defBody sNr) (defScope sNr) .none kV38 dc38 pm38 an38 cd38 ct38), sl38⟩) (c38 : PySem.W.codeIn K cd38 "_law_names_right" = true) (k38 : PySem.W.keepIn K (.ref f38) = true)
    (a39 : PySem.W.nsIn K mainGlobals "_law_alone_right" = some (some (.ref f39))) (l39 : K.lookup f39 = some ⟨oc39, od39, .func (PySem.W.fnOf "_law_alone_right" "_law_alone_right" (defArgs sAr) (defBody sAr) (defScope sAr) .none kV39 dc39 pm39 an39 cd39 ct39), sl39⟩) (c39 : PySem.W.codeIn K cd39 "_law_alone_right" = true) (k39 : PySem.W.keepIn K (.ref f39) = true)
    (a40 : PySem.W.nsIn K mainGlobals "law" = some (some (.ref f40))) (l40 : K.lookup f40 = some ⟨oc40, od40, .func (PySem.W.fnOf "law" "law" (defArgs sLaw) (defBody sLaw) (defScope sLaw) .none kV40 dc40 pm40 an40 cd40 ct40), sl40⟩) (c40 : PySem.W.codeIn K cd40 "law" = true) (k40 : PySem.W.keepIn K (.ref f40) = true)
    (xaTooBig : PySem.W.nsIn K mainGlobals "TooBig" = some (some (.ref ATooBig))) (xxTooBig : PySem.W.excIn K ATooBig [.type "ValueError", .type "Exception", .type "BaseException", .type "object"] "ValueError.__new__" = true) (xkTooBig : PySem.W.keepIn K (.ref ATooBig) = true) (xbTooBig : PySem.W.subIn K (.ref ATooBig) (.type "BaseException") = some true) (xtTooBig : PySem.W.typeIn K (.ref ATooBig) = some (.type "type")) (xdTooBig : PySem.W.hasDictIn K ATooBig = true) (xsTooBig : PySem.W.subIn K (.ref ATooBig) (.ref ATooBig) = some true)
    (pgSigns : PySem.W.plainGet K ASigns Str.empty = true)
    (hdSigns : PySem.W.hasDictIn K ASigns = true)
    (poSigns : PySem.W.plainOver K ASigns = true)
    (saSigns : PySem.W.findIn K (.ref ASigns) "__setattr__" = some (some (.builtin "object.__setattr__")))
    (mkSigns : PySem.W.makesIn K ASigns = true)
    (kcSigns : PySem.W.keepIn K (.ref ASigns) = true)
    (ntermsSigns : PySem.W.findIn K (.ref ASigns) "terms" = some none)
    (nleadsSigns : PySem.W.findIn K (.ref ASigns) "leads" = some none)
    (nheldSigns : PySem.W.findIn K (.ref ASigns) "held" = some none)
    (pgNames : PySem.W.plainGet K ANames Str.empty = true)
    (hdNames : PySem.W.hasDictIn K ANames = true)
    (poNames : PySem.W.plainOver K ANames = true)
    (saNames : PySem.W.findIn K (.ref ANames) "__setattr__" = some (some (.builtin "object.__setattr__")))
    (mkNames : PySem.W.makesIn K ANames = true)
    (kcNames : PySem.W.keepIn K (.ref ANames) = true)
    (ntermsNames : PySem.W.findIn K (.ref ANames) "terms" = some none)
    (nleadsNames : PySem.W.findIn K (.ref ANames) "leads" = some none)
    (nheldNames : PySem.W.findIn K (.ref ANames) "held" = some none)
    (z_ValueError : PySem.W.nsIn K mainGlobals "ValueError" = some none)
    (iSigns : PySem.W.findIn K (.ref ASigns) "__init__" = some (some (.ref f14)))
    (rdK : PySem.W.readsIn K AKind (.type "type") = true)
    (gaK : PySem.W.specialIn K (.ref AKind) "__getattribute__" = some (some (.builtin "type.__getattribute__")))
    (caK : PySem.W.findCls K (.ref AKind) (.type "type") "__init__" = some (.val (.ref f14)))
    (eb : PySem.W.subIn K (.ref ASameError) (.type "BaseException") = some true)
    (ed : PySem.W.hasDictIn K ASameError = true)
    (et : PySem.W.typeIn K (.ref ASameError) = some (.type "type"))
    (es : PySem.W.subIn K (.ref ATooBig) (.ref ASameError) = some true)
    (ehg : PySem.W.findIn K (.ref ATooBig) "__getattribute__" = some (some (.builtin "BaseException.__getattribute__")))
    (ehk : PySem.W.findIn K (.ref ATooBig) "__getattr__" = some none)
    (eha : PySem.W.findIn K (.ref ATooBig) "__class__" = some (some (.builtin "object.__class__")))
    (ehn : PySem.W.specialIn K (.builtin "object.__class__") "__get__" = some (some (.builtin "getset_descriptor.__get__")))
    (eht : PySem.W.takesIn K (.builtin "object.__class__") = some true)
    (ehm : PySem.W.mroIn K ATooBig (.type "object") = some true)
    (ek1 : PySem.W.kitOne K (.ref ATooBig) (.ref ATooBig) = some true)
    (ek2 : PySem.W.kitOne K (.ref ATooBig) (.type "ValueError") = some true)
    (ek3 : PySem.W.kitAny K (.ref ATooBig) [.ref ANoTree, .ref ANoRule, .ref ANoRow, .ref AFull, .ref AApart, .ref ATooWide] = some false)
    (z_len : PySem.W.nsIn K mainGlobals "len" = some none)
    (z_min : PySem.W.nsIn K mainGlobals "min" = some none)
    (z_max : PySem.W.nsIn K mainGlobals "max" = some none)
    (z_range : PySem.W.nsIn K mainGlobals "range" = some none)
    (z_list : PySem.W.nsIn K mainGlobals "list" = some none)
    (z_tuple : PySem.W.nsIn K mainGlobals "tuple" = some none)
    (z_zip : PySem.W.nsIn K mainGlobals "zip" = some none)
    (z_abs : PySem.W.nsIn K mainGlobals "abs" = some none)
    (z_int : PySem.W.nsIn K mainGlobals "int" = some none)
    (z_divmod : PySem.W.nsIn K mainGlobals "divmod" = some none)
    (z_enumerate : PySem.W.nsIn K mainGlobals "enumerate" = some none)
    (z_any : PySem.W.nsIn K mainGlobals "any" = some none)
    (z_all : PySem.W.nsIn K mainGlobals "all" = some none)
    (z_sum : PySem.W.nsIn K mainGlobals "sum" = some none)
    (z_reversed : PySem.W.nsIn K mainGlobals "reversed" = some none)
    (z_dict : PySem.W.nsIn K mainGlobals "dict" = some none)
    (z_sorted : PySem.W.nsIn K mainGlobals "sorted" = some none)
    (z_isinstance : PySem.W.nsIn K mainGlobals "isinstance" = some none)
    (z_repr : PySem.W.nsIn K mainGlobals "repr" = some none)
    (z_str : PySem.W.nsIn K mainGlobals "str" = some none)
    (z_bool : PySem.W.nsIn K mainGlobals "bool" = some none)
    : ∃ fd : FuncData, (∀ (s : Shared) (v : Value), BindsTo s fd ⟨[v], []⟩ [("script", v)]) ∧ ∀ base : Heap, K.In base → base.Ns mainGlobals mg → FnG l.prog w K mg base 7 fa fd ["script"] (low ⟨l.prog, w, K⟩ (spLaw ⟨l.prog, w, K⟩)) := by
  have e := hfa.symm.trans (PySem.W.mg_of X G a40)
  cases e
  have B : Bl mg := ⟨PySem.W.mg_none_of X G z_len, PySem.W.mg_none_of X G z_min, PySem.W.mg_none_of X G z_max, PySem.W.mg_none_of X G z_range, PySem.W.mg_none_of X G z_list, PySem.W.mg_none_of X G z_tuple, PySem.W.mg_none_of X G z_zip, PySem.W.mg_none_of X G z_abs, PySem.W.mg_none_of X G z_int, PySem.W.mg_none_of X G z_divmod, PySem.W.mg_none_of X G z_enumerate, PySem.W.mg_none_of X G z_any, PySem.W.mg_none_of X G z_all, PySem.W.mg_none_of X G z_sum, PySem.W.mg_none_of X G z_reversed, PySem.W.mg_none_of X G z_dict, PySem.W.mg_none_of X G z_sorted, PySem.W.mg_none_of X G z_isinstance, PySem.W.mg_none_of X G z_repr, PySem.W.mg_none_of X G z_str, PySem.W.mg_none_of X G z_bool⟩
  have TTooBig : ExcT K mg "TooBig" ATooBig := ⟨xxTooBig, PySem.W.mg_of X G xaTooBig, xkTooBig, xbTooBig, xtTooBig, PySem.W.exm_ref xbTooBig xdTooBig xtTooBig xsTooBig⟩
  refine ⟨PySem.W.fnOf "law" "law" (defArgs sLaw) (defBody sLaw) (defScope sLaw) .none kV40 dc40 pm40 an40 cd40 ct40, fun s v => .of_eq rfl, fun base _ _ => ?_⟩
  have TSigns : KT K ASigns := ⟨⟨pgSigns, hdSigns, poSigns, saSigns⟩, ntermsSigns, nleadsSigns, nheldSigns⟩
  have TNames : KT K ANames := ⟨⟨pgNames, hdNames, poNames, saNames⟩, ntermsNames, nleadsNames, nheldNames⟩
  have ER : ErC K mg ATooBig ASameError ANoTree ANoRule ANoRow AFull AApart ATooWide := ⟨PySem.W.mg_of X G gSameError, PySem.W.mg_of X G xaTooBig, PySem.W.mg_of X G gNoTree, PySem.W.mg_of X G gNoRule, PySem.W.mg_of X G gNoRow, PySem.W.mg_of X G gFull, PySem.W.mg_of X G gApart, PySem.W.mg_of X G gTooWide, PySem.W.mg_none_of X G z_ValueError, PySem.W.exm_ref eb ed et es, ⟨ehg, ehk, xbTooBig, xdTooBig, eha, ehn, eht, ehm⟩, ek1, ek2, ek3⟩
  have F0 := fun_mk (st := sCost) l0 c0 k0
  have b0 := F0.binds (ps := ["term", "costs"]) fun _ _ _ _ _ _ us hl => match us, hl with | [_, _], _ => rfl
  have C0 : Cal l.prog w K mg base "cost_of" 1 ["term", "costs"] (spCost) := ⟨⟨_, _, ok_cost F0 , PySem.W.mg_of X G a0, k0, b0⟩⟩
  have F1 := fun_mk (st := sArms) l1 c1 k1
  have b1 := F1.binds (ps := ["term"]) fun _ _ _ _ _ _ us hl => match us, hl with | [_], _ => rfl
  have C1 : Cal l.prog w K mg base "arms_of" 1 ["term"] (spArms) := ⟨⟨_, _, ok_arms F1 , PySem.W.mg_of X G a1, k1, b1⟩⟩
  have F2 := fun_mk (st := sPb) l2 c2 k2
  have b2 := F2.binds (ps := ["term", "leads", "costs", "best"]) fun _ _ _ _ _ _ us hl => match us, hl with | [_, _, _, _], _ => rfl
  have C2 : Cal l.prog w K mg base "price_by" 2 ["term", "leads", "costs", "best"] (spPb) := ⟨⟨_, _, ok_pb F2 B C0 C1, PySem.W.mg_of X G a2, k2, b2⟩⟩
  have F3 := fun_mk (st := sBp) l3 c3 k3
  have b3 := F3.binds (ps := ["terms", "leads", "costs"]) fun _ _ _ _ _ _ us hl => match us, hl with | [_, _, _], _ => rfl
  have C3 : Cal l.prog w K mg base "best_prices" 3 ["terms", "leads", "costs"] (spBp) := ⟨⟨_, _, ok_bp F3 B C2, PySem.W.mg_of X G a3, k3, b3⟩⟩
  have F4 := fun_mk (st := sPr) l4 c4 k4
  have b4 := F4.binds (ps := ["terms", "leads", "costs"]) fun _ _ _ _ _ _ us hl => match us, hl with | [_, _, _], _ => rfl
  have C4 : Cal l.prog w K mg base "prices" 4 ["terms", "leads", "costs"] (spPr) := ⟨⟨_, _, ok_pr F4 C3, PySem.W.mg_of X G a4, k4, b4⟩⟩
  have F5 := fun_mk (st := sNl) l5 c5 k5
  have b5 := F5.binds (ps := ["terms", "leads", "picks", "lead"]) fun _ _ _ _ _ _ us hl => match us, hl with | [_, _, _, _], _ => rfl
  have C5 : Cal l.prog w K mg base "needed_leads" 2 ["terms", "leads", "picks", "lead"] (spNl) := ⟨⟨_, _, ok_nl F5 B C1, PySem.W.mg_of X G a5, k5, b5⟩⟩
  have F6 := fun_mk (st := sRb) l6 c6 k6
  have b6 := F6.binds (ps := ["terms", "leads", "picks", "lead"]) fun _ _ _ _ _ _ us hl => match us, hl with | [_, _, _, _], _ => rfl
  have C6 : Cal l.prog w K mg base "rows_by" 3 ["terms", "leads", "picks", "lead"] (spRb) := ⟨⟨_, _, ok_rb F6 B C1 C5, PySem.W.mg_of X G a6, k6, b6⟩⟩
  have F7 := fun_mk (st := sCh) l7 c7 k7
  have b7 := F7.binds (ps := ["terms", "leads", "costs", "k"]) fun _ _ _ _ _ _ us hl => match us, hl with | [_, _, _, _], _ => rfl
  have C7 : Cal l.prog w K mg base "cheapest" 4 ["terms", "leads", "costs", "k"] (spCh) := ⟨⟨_, _, ok_ch F7 B C3 C2 C6, PySem.W.mg_of X G a7, k7, b7⟩⟩
  have F8 := fun_mk (st := sSz) l8 c8 k8
  have b8 := F8.binds (ps := ["terms", "leads", "choice"]) fun _ _ _ _ _ _ us hl => match us, hl with | [_, _, _], _ => rfl
  have C8 : Cal l.prog w K mg base "sizes_by" 2 ["terms", "leads", "choice"] (spSz) := ⟨⟨_, _, ok_sz F8 B C1, PySem.W.mg_of X G a8, k8, b8⟩⟩
  have F9 := fun_mk (st := sTk) l9 c9 k9
  have b9 := F9.binds (ps := ["terms", "leads", "choice"]) fun _ _ _ _ _ _ us hl => match us, hl with | [_, _, _], _ => rfl
  have C9 : CalX l.prog w K mg base "taken" 3 ["terms", "leads", "choice"] (spTk ATooBig) := ⟨⟨_, _, ok_tk F9 B TTooBig C8, PySem.W.mg_of X G a9, k9, b9⟩⟩
  have F10 := fun_mk (st := sMark) l10 c10 k10
  have b10 := F10.binds (ps := ["term", "leads"]) fun _ _ _ _ _ _ us hl => match us, hl with | [_, _], _ => rfl
  have C10 : Cal l.prog w K mg base "mark" 1 ["term", "leads"] (spMark) := ⟨⟨_, _, ok_mark F10 B, PySem.W.mg_of X G a10, k10, b10⟩⟩
  have F11 := fun_mk (st := sUnite) l11 c11 k11
  have b11 := F11.binds (ps := ["leads", "one", "other"]) fun _ _ _ _ _ _ us hl => match us, hl with | [_, _, _], _ => rfl
  have C11 : Cal l.prog w K mg base "unite" 1 ["leads", "one", "other"] (spUnite) := ⟨⟨_, _, ok_unite F11 B, PySem.W.mg_of X G a11, k11, b11⟩⟩
  have F12 := fun_mk (st := sUl) l12 c12 k12
  have b12 := F12.binds (ps := ["terms", "leads"]) fun _ _ _ _ _ _ us hl => match us, hl with | [_, _], _ => rfl
  have C12 : Cal l.prog w K mg base "unite_like" 2 ["terms", "leads"] (spUl) := ⟨⟨_, _, ok_ul F12 B C10 C11, PySem.W.mg_of X G a12, k12, b12⟩⟩
  have F13 := fun_mk (st := sClosed) l13 c13 k13
  have b13 := F13.binds (ps := ["terms", "edges"]) fun _ _ _ _ _ _ us hl => match us, hl with | [_, _], _ => rfl
  have C13 : Cal l.prog w K mg base "closed" 3 ["terms", "edges"] (spClosed) := ⟨⟨_, _, ok_closed F13 B C11 C12, PySem.W.mg_of X G a13, k13, b13⟩⟩
  have F14 := fun_mk (st := sKi) l14 c14 k14
  have b14 := F14.binds (ps := ["self", "terms", "leads"]) fun _ _ _ _ _ _ us hl => match us, hl with | [_, _, _], _ => rfl
  have MS : Mkr l.prog w K mg base "Signs" ASigns 1 ["self", "terms", "leads"] (spKi ASigns) := ⟨⟨_, _, ⟨mkSigns, iSigns, i14, kcSigns⟩, ok_ki F14 B TSigns, PySem.W.mg_of X G gSigns, b14⟩⟩
  have KD : KdC K mg AKind f14 := ⟨PySem.W.mg_of X G gKind, ⟨rdK, gaK⟩, caK, k14⟩
  have F15 := fun_mk (st := sSb0) l15 c15 k15
  have b15 := F15.binds (ps := ["number"]) fun _ _ _ _ _ _ us hl => match us, hl with | [_], _ => rfl
  have C15 : Cal l.prog w K mg base "sign_bit" 1 ["number"] (spSgn) := ⟨⟨_, _, ok_sgn F15 , PySem.W.mg_of X G a15, k15, b15⟩⟩
  have F16 := fun_mk (st := sOpp) l16 c16 k16
  have b16 := F16.binds (ps := ["fact"]) fun _ _ _ _ _ _ us hl => match us, hl with | [_], _ => rfl
  have C16 : Cal l.prog w K mg base "opposite" 1 ["fact"] (spOpp) := ⟨⟨_, _, ok_opp F16 , PySem.W.mg_of X G a16, k16, b16⟩⟩
  have F17 := fun_mk (st := sSt) l17 c17 k17
  have b17 := F17.binds (ps := ["self"]) fun _ _ _ _ _ _ us hl => match us, hl with | [_], _ => rfl
  have C17 : Mtd l.prog w K mg base ASigns "top" 1 ["self"] (fun ws G K KE => ∃ fs, spTop ASigns fs 7 ws G K KE) := ⟨TSigns.cls, ⟨_, _, ⟨a17, i17, k17⟩, ok_st F17 , b17⟩⟩
  have F18 := fun_mk (st := sSw) l18 c18 k18
  have b18 := F18.binds (ps := ["self", "term", "known"]) fun _ _ _ _ _ _ us hl => match us, hl with | [_, _, _], _ => rfl
  have C18 : Mtd l.prog w K mg base ASigns "worth" 2 ["self", "term", "known"] (fun ws G K KE => ∃ fs n, spWo ASigns fs n sgW ws G K KE) := ⟨TSigns.cls, ⟨_, _, ⟨a18, i18, k18⟩, ok_sw F18 B C15 C16, b18⟩⟩
  have F19 := fun_mk (st := sNi) l19 c19 k19
  have b19 := F19.binds (ps := ["self", "terms", "leads"]) fun _ _ _ _ _ _ us hl => match us, hl with | [_, _, _], _ => rfl
  have MN : Mkr l.prog w K mg base "Names" ANames 2 ["self", "terms", "leads"] (spNi ANames) := ⟨⟨_, _, ⟨mkNames, a19, i19, kcNames⟩, ok_ni F19 B TNames KD (ok_ki F14 B TNames) b14, PySem.W.mg_of X G gNames, b19⟩⟩
  have F20 := fun_mk (st := sNt) l20 c20 k20
  have b20 := F20.binds (ps := ["self"]) fun _ _ _ _ _ _ us hl => match us, hl with | [_], _ => rfl
  have C20 : Mtd l.prog w K mg base ANames "top" 1 ["self"] (spNt ANames) := ⟨TNames.cls, ⟨_, _, ⟨a20, i20, k20⟩, ok_nt F20 B TNames, b20⟩⟩
  have F21 := fun_mk (st := sBo) l21 c21 k21
  have b21 := F21.binds (ps := ["self", "name"]) fun _ _ _ _ _ _ us hl => match us, hl with | [_, _], _ => rfl
  have C21 : Mtd l.prog w K mg base ANames "bit_of" 1 ["self", "name"] (spBo ANames) := ⟨TNames.cls, ⟨_, _, ⟨a21, i21, k21⟩, ok_bo F21 B TNames, b21⟩⟩
  have F22 := fun_mk (st := sNw) l22 c22 k22
  have b22 := F22.binds (ps := ["self", "term", "known"]) fun _ _ _ _ _ _ us hl => match us, hl with | [_, _, _], _ => rfl
  have C22 : Mtd l.prog w K mg base ANames "worth" 2 ["self", "term", "known"] (spNw ANames) := ⟨TNames.cls, ⟨_, _, ⟨a22, i22, k22⟩, ok_nw F22 B C21, b22⟩⟩
  have F23 := fun_mk (st := sFr0) l23 c23 k23
  have b23 := F23.binds (ps := ["self", "known", "k", "name"]) fun _ _ _ _ _ _ us hl => match us, hl with | [_, _, _, _], _ => rfl
  have C23 : Mtd l.prog w K mg base ANames "free" 2 ["self", "known", "k", "name"] (spFre ANames) := ⟨TNames.cls, ⟨_, _, ⟨a23, i23, k23⟩, ok_fre F23 B TNames C21, b23⟩⟩
  have F24 := fun_mk (st := sSpr) l24 c24 k24
  have b24 := F24.binds (ps := ["known", "leads", "k", "fact"]) fun _ _ _ _ _ _ us hl => match us, hl with | [_, _, _, _], _ => rfl
  have C24 : Cal l.prog w K mg base "spread" 1 ["known", "leads", "k", "fact"] (spSpr) := ⟨⟨_, _, ok_spr F24 B, PySem.W.mg_of X G a24, k24, b24⟩⟩
  have F25 := fun_mk (st := sLe) l25 c25 k25
  have b25 := F25.binds (ps := ["kind"]) fun _ _ _ _ _ _ us hl => match us, hl with | [_], _ => rfl
  have C25 : Cal l.prog w K mg base "learned" 3 ["kind"] (spLe ASigns ANames) := ⟨⟨_, _, ok_le F25 B TSigns TNames C24 C17 C18 C20 C22, PySem.W.mg_of X G a25, k25, b25⟩⟩
  have F26 := fun_mk (st := sNum) l26 c26 k26
  have b26 := F26.binds (ps := ["terms", "leads", "k"]) fun _ _ _ _ _ _ us hl => match us, hl with | [_, _, _], _ => rfl
  have C26 : Cal l.prog w K mg base "numbers" 1 ["terms", "leads", "k"] (spNum) := ⟨⟨_, _, ok_num F26 B, PySem.W.mg_of X G a26, k26, b26⟩⟩
  have F27 := fun_mk (st := sBox) l27 c27 k27
  have b27 := F27.binds (ps := ["script", "k"]) fun _ _ _ _ _ _ us hl => match us, hl with | [_, _], _ => rfl
  have C27 : Cal l.prog w K mg base "_law_box" 1 ["script", "k"] (spBox) := ⟨⟨_, _, ok_box F27 B, PySem.W.mg_of X G a27, k27, b27⟩⟩
  have F28 := fun_mk (st := sTake) l28 c28 k28
  have b28 := F28.binds (ps := ["box", "many"]) fun _ _ _ _ _ _ us hl => match us, hl with | [_, _], _ => rfl
  have C28 : Cal l.prog w K mg base "_law_take" 1 ["box", "many"] (spTake) := ⟨⟨_, _, ok_take F28 B, PySem.W.mg_of X G a28, k28, b28⟩⟩
  have F29 := fun_mk (st := sFold) l29 c29 k29
  have b29 := F29.binds (ps := ["script", "many"]) fun _ _ _ _ _ _ us hl => match us, hl with | [_, _], _ => rfl
  have C29 : Cal l.prog w K mg base "_law_folded" 1 ["script", "many"] (spFold ⟨l.prog, w, K⟩) := ⟨⟨_, _, ok_fold F29 B, PySem.W.mg_of X G a29, k29, b29⟩⟩
  have F30 := fun_mk (st := sSame) l30 c30 k30
  have b30 := F30.binds (ps := ["found", "due"]) fun _ _ _ _ _ _ us hl => match us, hl with | [_, _], _ => rfl
  have C30 : Cal l.prog w K mg base "_law_same" 4 ["found", "due"] (spSame 3) := ⟨⟨_, _, ok_same F30 B (PySem.W.mg_of X G a30) k30 b30 3, PySem.W.mg_of X G a30, k30, b30⟩⟩
  have F31 := fun_mk (st := sWd) l31 c31 k31
  have b31 := F31.binds (ps := ["box"]) fun _ _ _ _ _ _ us hl => match us, hl with | [_], _ => rfl
  have C31 : Cal l.prog w K mg base "_law_word" 2 ["box"] (spWd) := ⟨⟨_, _, ok_wd F31 B C28, PySem.W.mg_of X G a31, k31, b31⟩⟩
  have F32 := fun_mk (st := sWs) l32 c32 k32
  have b32 := F32.binds (ps := ["box", "many"]) fun _ _ _ _ _ _ us hl => match us, hl with | [_, _], _ => rfl
  have C32 : Cal l.prog w K mg base "_law_words" 2 ["box", "many"] (spWs) := ⟨⟨_, _, ok_ws F32 B C28, PySem.W.mg_of X G a32, k32, b32⟩⟩
  have F33 := fun_mk (st := sCase) l33 c33 k33
  have b33 := F33.binds (ps := ["box", "first"]) fun _ _ _ _ _ _ us hl => match us, hl with | [_, _], _ => rfl
  have C33 : Cal l.prog w K mg base "_law_case" 3 ["box", "first"] (spCase) := ⟨⟨_, _, ok_case F33 B C28 C31 C32, PySem.W.mg_of X G a33, k33, b33⟩⟩
  have F34 := fun_mk (st := sLt) l34 c34 k34
  have b34 := F34.binds (ps := ["word", "number", "deep"]) fun _ _ _ _ _ _ us hl => match us, hl with | [_, _, _], _ => rfl
  have C34 : Cal l.prog w K mg base "_law_tree" 1 ["word", "number", "deep"] (spLt) := ⟨⟨_, _, ok_lt F34 B, PySem.W.mg_of X G a34, k34, b34⟩⟩
  have F35 := fun_mk (st := sLb) l35 c35 k35
  have b35 := F35.binds (ps := ["terms", "leads", "choice"]) fun _ _ _ _ _ _ us hl => match us, hl with | [_, _, _], _ => rfl
  have C35 : Cal l.prog w K mg base "_law_big" 4 ["terms", "leads", "choice"] (spLb) := ⟨⟨_, _, ok_lb F35 B ER C9, PySem.W.mg_of X G a35, k35, b35⟩⟩
  have F36 := fun_mk (st := sCr) l36 c36 k36
  have b36 := F36.binds (ps := ["box", "case", "leads"]) fun _ _ _ _ _ _ us hl => match us, hl with | [_, _, _], _ => rfl
  have C36 : Cal l.prog w K mg base "_law_cheap_right" 5 ["box", "case", "leads"] (spCr) := ⟨⟨_, _, ok_cr F36 B C28 C30 C4 C7 C9 C34 C35, PySem.W.mg_of X G a36, k36, b36⟩⟩
  have F37 := fun_mk (st := sSr) l37 c37 k37
  have b37 := F37.binds (ps := ["case", "leads"]) fun _ _ _ _ _ _ us hl => match us, hl with | [_, _], _ => rfl
  have C37 : Cal l.prog w K mg base "_law_signs_right" 5 ["case", "leads"] (spSr) := ⟨⟨_, _, ok_sr F37 B C30 MS C17 C25, PySem.W.mg_of X G a37, k37, b37⟩⟩
  have F38 := fun_mk (st := sNr) l38 c38 k38
  have b38 := F38.binds (ps := ["box", "case", "leads"]) fun _ _ _ _ _ _ us hl => match us, hl with | [_, _, _], _ => rfl
  have C38 : Cal l.prog w K mg base "_law_names_right" 5 ["box", "case", "leads"] (spNr) := ⟨⟨_, _, ok_nr F38 B C28 C30 MN C23 C25 C26, PySem.W.mg_of X G a38, k38, b38⟩⟩
  have F39 := fun_mk (st := sAr) l39 c39 k39
  have b39 := F39.binds (ps := ["box"]) fun _ _ _ _ _ _ us hl => match us, hl with | [_], _ => rfl
  have C39 : Cal l.prog w K mg base "_law_alone_right" 5 ["box"] (spAr) := ⟨⟨_, _, ok_ar F39 B C28 C32 C30 TNames MN C20 C22 C23 C25, PySem.W.mg_of X G a39, k39, b39⟩⟩
  have F40 := fun_mk (st := sLaw) l40 c40 k40
  exact ok_law F40 B C29 C27 C33 C28 C30 C13 C36 C37 C38 C39
theorem walk {l : PySem.W.OpenLaw} {q : Program} {loose : List Str} {XP : (Str → Option Value) → Heap → Prop} {YP : World → Heap → Prop} {d : DefRec} {K : Params → PySem.W.Frag} (hn : l.most = some 63) (hdf : d.params.defaults = [])
    (hY : ∀ (w : World) (h : Heap), YP w h → (K w.params).In h)
    (F : ∀ (w : World) (mg : Str → Option Value) (fa : Addr) (h : Heap), (K w.params).In h → h.Ns mainGlobals mg → mg d.name = some (.ref fa) →
      ∃ fd : FuncData, (∀ (s : Shared) (u : Value), BindsTo s fd ⟨[u], []⟩ [("script", u)]) ∧ ∀ base : Heap, (K w.params).In base → base.Ns mainGlobals mg → FnG l.prog w (K w.params) mg base 7 fa fd ["script"] (low ⟨l.prog, w, K w.params⟩ (spLaw ⟨l.prog, w, K w.params⟩))) :
    PySem.W.WalkO q loose XP YP l.row.toRowW d [] (fun f vs => PySem.call f vs) :=
  AL.walk_ofG (n := 63) (k := 7) (x := "script") (sp := fun w => low ⟨l.prog, w, K w.params⟩ (spLaw ⟨l.prog, w, K w.params⟩)) hn (by decide) hdf ⟨rfl, by decide, by decide⟩ hY F (fun _ _ _ _ hl hO hS => law_low hl hO hS)
end SW
open PySem PySem.W PyProof.Rows in
set_option maxRecDepth 100000 in
set_option maxHeartbeats 0 in
theorem PySem.Challenge.cw_samewise_k85_whole_names_in_a_row_holds : PySem.Challenge.rw_samewise_k85_whole_names_in_a_row.Holds := by
  w_on; o_law; k_head; (case hw => w_witness2)
  k_fill
  refine SW.walk (l := PySem.Challenge.rw_samewise_k85_whole_names_in_a_row) rfl rfl (fun w h Y => PySem.W.kIn_of Y) ?F
  case F =>
    intro w mg fa h KX G hmg
    refine' SW.all_mk KX G hmg ?gKind ?gSigns ?gNames ?gSameError ?gNoTree ?gNoRule ?gNoRow ?gFull ?gApart ?gTooWide ?a0 ?l0 ?c0 ?k0 ?a1 ?l1 ?c1 ?k1 ?a2 ?l2 ?c2 ?k2 ?a3 ?l3 ?c3 ?k3 ?a4 ?l4 ?c4 ?k4 ?a5 ?l5 ?c5 ?k5 ?a6 ?l6 ?c6 ?k6 ?a7 ?l7 ?c7 ?k7 ?a8 ?l8 ?c8 ?k8 ?a9 ?l9 ?c9 ?k9 ?a10 ?l10 ?c10 ?k10 ?a11 ?l11 ?c11 ?k11 ?a12 ?l12 ?c12 ?k12 ?a13 ?l13 ?c13 ?k13 ?a14 ?i14 ?l14 ?c14 ?k14 ?a15 ?l15 ?c15 ?k15 ?a16 ?l16 ?c16 ?k16 ?a17 ?i17 ?l17 ?c17 ?k17 ?a18 ?i18 ?l18 ?c18 ?k18 ?a19 ?i19 ?l19 ?c19 ?k19 ?a20 ?i20 ?l20 ?c20 ?k20 ?a21 ?i21 ?l21 ?c21 ?k21 ?a22 ?i22 ?l22 ?c22 ?k22 ?a23 ?i23 ?l23 ?c23 ?k23 ?a24 ?l24 ?c24 ?k24 ?a25 ?l25 ?c25 ?k25 ?a26 ?l26 ?c26 ?k26 ?a27 ?l27 ?c27 ?k27 ?a28 ?l28 ?c28 ?k28 ?a29 ?l29 ?c29 ?k29 ?a30 ?l30 ?c30 ?k30 ?a31 ?l31 ?c31 ?k31 ?a32 ?l32 ?c32 ?k32 ?a33 ?l33 ?c33 ?k33 ?a34 ?l34 ?c34 ?k34 ?a35 ?l35 ?c35 ?k35 ?a36 ?l36 ?c36 ?k36 ?a37 ?l37 ?c37 ?k37 ?a38 ?l38 ?c38 ?k38 ?a39 ?l39 ?c39 ?k39 ?a40 ?l40 ?c40 ?k40 ?xaTooBig ?xxTooBig ?xkTooBig ?xbTooBig ?xtTooBig ?xdTooBig ?xsTooBig ?pgSigns ?hdSigns ?poSigns ?saSigns ?mkSigns ?kcSigns ?ntermsSigns ?nleadsSigns ?nheldSigns ?pgNames ?hdNames ?poNames ?saNames ?mkNames ?kcNames ?ntermsNames ?nleadsNames ?nheldNames ?z_ValueError ?iSigns ?rdK ?gaK ?caK ?eb ?ed ?et ?es ?ehg ?ehk ?eha ?ehn ?eht ?ehm ?ek1 ?ek2 ?ek3 ?z_len ?z_min ?z_max ?z_range ?z_list ?z_tuple ?z_zip ?z_abs ?z_int ?z_divmod ?z_enumerate ?z_any ?z_all ?z_sum ?z_reversed ?z_dict ?z_sorted ?z_isinstance ?z_repr ?z_str ?z_bool
    (case gKind => k_is)
    (case gSigns => k_is)
    (case gNames => k_is)
    (case gSameError => k_is)
    (case gNoTree => k_is)
    (case gNoRule => k_is)
    (case gNoRow => k_is)
    (case gFull => k_is)
    (case gApart => k_is)
    (case gTooWide => k_is)
    (case a0 => k_is)
    (case l0 => k_is)
    (case c0 => k_is)
    (case k0 => k_is)
    (case a1 => k_is)
    (case l1 => k_is)
    (case c1 => k_is)
    (case k1 => k_is)
    (case a2 => k_is)
    (case l2 => k_is)
    (case c2 => k_is)
    (case k2 => k_is)
    (case a3 => k_is)
    (case l3 => k_is)
    (case c3 => k_is)
    (case k3 => k_is)
    (case a4 => k_is)
    (case l4 => k_is)
    (case c4 => k_is)
    (case k4 => k_is)
    (case a5 => k_is)
    (case l5 => k_is)
    (case c5 => k_is)
    (case k5 => k_is)
    (case a6 => k_is)
    (case l6 => k_is)
    (case c6 => k_is)
    (case k6 => k_is)
    (case a7 => k_is)
    (case l7 => k_is)
    (case c7 => k_is)
    (case k7 => k_is)
    (case a8 => k_is)
    (case l8 => k_is)
    (case c8 => k_is)
    (case k8 => k_is)
    (case a9 => k_is)
    (case l9 => k_is)
    (case c9 => k_is)
    (case k9 => k_is)
    (case a10 => k_is)
    (case l10 => k_is)
    (case c10 => k_is)
    (case k10 => k_is)
    (case a11 => k_is)
    (case l11 => k_is)
    (case c11 => k_is)
    (case k11 => k_is)
    (case a12 => k_is)
    (case l12 => k_is)
    (case c12 => k_is)
    (case k12 => k_is)
    (case a13 => k_is)
    (case l13 => k_is)
    (case c13 => k_is)
    (case k13 => k_is)
    (case a14 => k_is)
    (case i14 => k_is)
    (case l14 => k_is)
    (case c14 => k_is)
    (case k14 => k_is)
    (case a15 => k_is)
    (case l15 => k_is)
    (case c15 => k_is)
    (case k15 => k_is)
    (case a16 => k_is)
    (case l16 => k_is)
    (case c16 => k_is)
    (case k16 => k_is)
    (case a17 => k_is)
    (case i17 => k_is)
    (case l17 => k_is)
    (case c17 => k_is)
    (case k17 => k_is)
    (case a18 => k_is)
    (case i18 => k_is)
    (case l18 => k_is)
    (case c18 => k_is)
    (case k18 => k_is)
    (case a19 => k_is)
    (case i19 => k_is)
    (case l19 => k_is)
    (case c19 => k_is)
    (case k19 => k_is)
    (case a20 => k_is)
    (case i20 => k_is)
    (case l20 => k_is)
    (case c20 => k_is)
    (case k20 => k_is)
    (case a21 => k_is)
    (case i21 => k_is)
    (case l21 => k_is)
    (case c21 => k_is)
    (case k21 => k_is)
    (case a22 => k_is)
    (case i22 => k_is)
    (case l22 => k_is)
    (case c22 => k_is)
    (case k22 => k_is)
    (case a23 => k_is)
    (case i23 => k_is)
    (case l23 => k_is)
    (case c23 => k_is)
    (case k23 => k_is)
    (case a24 => k_is)
    (case l24 => k_is)
    (case c24 => k_is)
    (case k24 => k_is)
    (case a25 => k_is)
    (case l25 => k_is)
    (case c25 => k_is)
    (case k25 => k_is)
    (case a26 => k_is)
    (case l26 => k_is)
    (case c26 => k_is)
    (case k26 => k_is)
    (case a27 => k_is)
    (case l27 => k_is)
    (case c27 => k_is)
    (case k27 => k_is)
    (case a28 => k_is)
    (case l28 => k_is)
    (case c28 => k_is)
    (case k28 => k_is)
    (case a29 => k_is)
    (case l29 => k_is)
    (case c29 => k_is)
    (case k29 => k_is)
    (case a30 => k_is)
    (case l30 => k_is)
    (case c30 => k_is)
    (case k30 => k_is)
    (case a31 => k_is)
    (case l31 => k_is)
    (case c31 => k_is)
    (case k31 => k_is)
    (case a32 => k_is)
    (case l32 => k_is)
    (case c32 => k_is)
    (case k32 => k_is)
    (case a33 => k_is)
    (case l33 => k_is)
    (case c33 => k_is)
    (case k33 => k_is)
    (case a34 => k_is)
    (case l34 => k_is)
    (case c34 => k_is)
    (case k34 => k_is)
    (case a35 => k_is)
    (case l35 => k_is)
    (case c35 => k_is)
    (case k35 => k_is)
    (case a36 => k_is)
    (case l36 => k_is)
    (case c36 => k_is)
    (case k36 => k_is)
    (case a37 => k_is)
    (case l37 => k_is)
    (case c37 => k_is)
    (case k37 => k_is)
    (case a38 => k_is)
    (case l38 => k_is)
    (case c38 => k_is)
    (case k38 => k_is)
    (case a39 => k_is)
    (case l39 => k_is)
    (case c39 => k_is)
    (case k39 => k_is)
    (case a40 => k_is)
    (case l40 => k_is)
    (case c40 => k_is)
    (case k40 => k_is)
    (case xaTooBig => k_is)
    (case xxTooBig => k_exc)
    (case xkTooBig => k_is)
    (case xbTooBig => k_is)
    (case xtTooBig => k_is)
    (case xdTooBig => k_is)
    (case xsTooBig => first | rfl | k_is)
    (case pgSigns => k_is)
    (case hdSigns => k_is)
    (case poSigns => k_is)
    (case saSigns => k_is)
    (case mkSigns => k_is)
    (case kcSigns => k_is)
    (case ntermsSigns => k_is)
    (case nleadsSigns => k_is)
    (case nheldSigns => k_is)
    (case pgNames => k_is)
    (case hdNames => k_is)
    (case poNames => k_is)
    (case saNames => k_is)
    (case mkNames => k_is)
    (case kcNames => k_is)
    (case ntermsNames => k_is)
    (case nleadsNames => k_is)
    (case nheldNames => k_is)
    (case z_ValueError => k_is)
    (case iSigns => k_is)
    (case rdK => k_is)
    (case gaK => k_is)
    (case caK => k_is)
    (case eb => k_is)
    (case ed => k_is)
    (case et => k_is)
    (case es => k_is)
    (case ehg => k_is)
    (case ehk => k_is)
    (case eha => k_is)
    (case ehn => k_is)
    (case eht => k_is)
    (case ehm => k_is)
    (case ek1 => first | rfl | kit_is | k_is)
    (case ek2 => first | kit_is | k_is)
    (case ek3 => first | kit_is | k_is)
    (case z_len => k_is)
    (case z_min => k_is)
    (case z_max => k_is)
    (case z_range => k_is)
    (case z_list => k_is)
    (case z_tuple => k_is)
    (case z_zip => k_is)
    (case z_abs => k_is)
    (case z_int => k_is)
    (case z_divmod => k_is)
    (case z_enumerate => k_is)
    (case z_any => k_is)
    (case z_all => k_is)
    (case z_sum => k_is)
    (case z_reversed => k_is)
    (case z_dict => k_is)
    (case z_sorted => k_is)
    (case z_isinstance => k_is)
    (case z_repr => k_is)
    (case z_str => k_is)
    (case z_bool => k_is)
